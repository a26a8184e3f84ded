import PyProof.Rows.All
import Wide.All
import OpenK.AllK
import Wide.FinOn
import HandS.ForMost
import HandS.ForExc
import HandS.Walk
import HandS.IsInst
import HandS.ExcInit
import HandS.ExcField
import HandS.ExcIs
import HandS.Star
import HandS.Deep
import HandS.SortOrd
import HandS.TupAny
import HandS.CallSlots
import KE.DataCmp
import KE.SortKeyHeap
import HandS.SortKw
import KE.KIsAll
import HandS.Defaults
import PySem.Challenge.RW_linkfarms_k02_paths_made_and_ordered
set_option Elab.async false
set_option linter.all false
set_option maxRecDepth 100000
set_option maxHeartbeats 4000000
set_option autoImplicit false
/-! A layer of data: what an expression is worth as a tree, what a statement does to the names' trees -/
namespace DL
open PySem PySem.Spec PyProof.Rows L2

inductive D where
  | non | bl (b : Bool) | int (i : Int) | str (s : Str)
  | lst (l : List D) | tup (l : List D) | dic (l : List (Key × D)) | dit (l : List (List Key × D))
  | obj (C : Addr) (fs : List (Str × D))
  | hot (i : Nat)
  | cls (C : Addr)
  | ty (n : String)
  | exn (a dd : Addr) (fs : List (Str × D))
  | scr (l : List Int)
inductive HotO where
  | lst (l : List D) | dic (l : List (Key × D)) | dit (l : List (List Key × D)) | obj (C : Addr) (fs : List (Str × D)) | dead
abbrev Sto := List HotO
abbrev Env := List (Option D)
inductive Res (α : Type) where
  | ok (a : α) (S : Sto)
  | exc (C : Addr) (fs : List (Str × D)) (S : Sto)
  | bad
def Res.bind {α β : Type} (r : Res α) (k : α → Sto → Res β) : Res β := match r with
  | .ok a S => k a S
  | .exc C fs S => .exc C fs S
  | .bad => .bad
@[simp] theorem Res.bind_ok {α β : Type} (a : α) (S : Sto) (k : α → Sto → Res β) : (Res.ok a S).bind k = k a S := rfl
@[simp] theorem Res.bind_bad {α β : Type} (k : α → Sto → Res β) : (Res.bad : Res α).bind k = .bad := rfl
@[simp] theorem Res.bind_exc {α β : Type} (C : Addr) (fs : List (Str × D)) (S : Sto) (k : α → Sto → Res β) : (Res.exc C fs S : Res α).bind k = .exc C fs S := rfl
def lift {α : Type} (o : Option α) (S : Sto) : Res α := match o with
  | some a => .ok a S
  | none => .bad
@[simp] theorem lift_some {α : Type} (a : α) (S : Sto) : lift (some a) S = .ok a S := rfl
@[simp] theorem lift_none {α : Type} (S : Sto) : lift (none : Option α) S = .bad := rfl

mutual
def Rp (η : List Addr) (H : Hp) : D → V → Prop
  | .non, v => v = .non
  | .bl b, v => v = .bl b
  | .int i, v => v = .int i
  | .str s, v => v = .str s
  | .lst ds, v => ∃ a xs, v = .ref a ∧ H a = some (.lst xs) ∧ RpL η H ds xs
  | .tup ds, v => ∃ a xs, v = .ref a ∧ H a = some (.tup xs) ∧ RpL η H ds xs
  | .dic kvs, v => ∃ a ws, v = .ref a ∧ L2.Rd H a (.dK ws) ∧ RpK η H kvs ws
  | .dit kvs, v => ∃ a ws, v = .ref a ∧ L2.Rd H a (.dT ws) ∧ RpT η H kvs ws
  | .obj C fs, v => ∃ a dx ws, v = .ref a ∧ H a = some (.ins C dx ws) ∧ RpF η H fs ws
  | .hot i, v => ∃ a, v = .ref a ∧ η[i]? = some a
  | .cls C, v => v = .ref C
  | .ty n, v => v = .ty n
  | .exn a dd fs, v => ∃ ws, v = .ref a ∧ H dd = some (.xd ws) ∧ RpF η H fs ws
  | .scr ns, v => ∃ a o, v = .ref a ∧ H a = some (.frz o (.lst (ns.map V.int)))
def RpL (η : List Addr) (H : Hp) : List D → List V → Prop
  | [], xs => xs = []
  | d :: ds, xs => ∃ v vs, xs = v :: vs ∧ Rp η H d v ∧ RpL η H ds vs
def RpK (η : List Addr) (H : Hp) : List (Key × D) → List (Key × V) → Prop
  | [], ws => ws = []
  | (k, d) :: ds, ws => ∃ v vs, ws = (k, v) :: vs ∧ Rp η H d v ∧ RpK η H ds vs
def RpT (η : List Addr) (H : Hp) : List (List Key × D) → List (List Key × V) → Prop
  | [], ws => ws = []
  | (k, d) :: ds, ws => ∃ v vs, ws = (k, v) :: vs ∧ Rp η H d v ∧ RpT η H ds vs
def RpF (η : List Addr) (H : Hp) : List (Str × D) → List (Str × V) → Prop
  | [], ws => ws = []
  | (k, d) :: ds, ws => ∃ v vs, ws = (k, v) :: vs ∧ Rp η H d v ∧ RpF η H ds vs
end
/-- a dict -/
def isDc : HO → Prop
  | .dK _ => True
  | .dT _ => True
  | _ => False
/-- all stands, but that dicts may be locked or unlocked -/
def Le (H H' : Hp) : Prop := ∀ a o, H a = some o → H' a = some o ∨ (isDc o ∧ ∃ x, H' a = some (.frz x o)) ∨ ∃ x u, o = .frz x u ∧ isDc u ∧ H' a = some u
theorem Le.of {H H' : Hp} (h : Same H H') : Le H H' := fun a o e => .inl (h a o e)
/-- more hot objects -/
def Up (η η' : List Addr) : Prop := ∀ (i : Nat) (a : Addr), η[i]? = some a → η'[i]? = some a
theorem Up.refl (η : List Addr) : Up η η := fun _ _ h => h
section
variable {η η' : List Addr} {H H' : Hp}
theorem Le.rd (h : Le H H') {a : Addr} {u : HO} (hd : isDc u) (r : L2.Rd H a u) : L2.Rd H' a u := by
  rcases r with r | ⟨o, r⟩
  · rcases h _ _ r with e | ⟨_, x, e⟩ | ⟨x, u', e1, _, e⟩
    · exact .inl e
    · exact .inr ⟨x, e⟩
    · subst e1; exact hd.elim
  · rcases h _ _ r with e | ⟨q, x, e⟩ | ⟨x, u', e1, _, e⟩
    · exact .inr ⟨o, e⟩
    · exact q.elim
    · cases e1; exact .inl e
theorem Le.at (h : Le H H') {a : Addr} {u : HO} (hd : ¬ isDc u) (hf : ∀ x u', u ≠ .frz x u') (r : H a = some u) : H' a = some u := by
  rcases h _ _ r with e | ⟨q, _⟩ | ⟨x, u', e1, _⟩
  · exact e
  · exact absurd q hd
  · exact absurd e1 (hf x u')
theorem Le.lst (h : Le H H') {a : Addr} {xs : List V} (r : H a = some (.lst xs)) : H' a = some (.lst xs) := h.at (fun z => z) (fun _ _ => nofun) r
mutual
theorem Rp.le (h : Le H H') (u : Up η η') : ∀ (d : D) {v : V}, Rp η H d v → Rp η' H' d v
  | .non, _, r => r
  | .bl _, _, r => r
  | .int _, _, r => r
  | .str _, _, r => r
  | .lst ds, _, ⟨a, xs, e, q, r⟩ => ⟨a, xs, e, h.at (fun z => z) (fun _ _ => nofun) q, RpL.le h u ds r⟩
  | .tup ds, _, ⟨a, xs, e, q, r⟩ => ⟨a, xs, e, h.at (fun z => z) (fun _ _ => nofun) q, RpL.le h u ds r⟩
  | .dic ds, _, ⟨a, ws, e, q, r⟩ => ⟨a, ws, e, h.rd trivial q, RpK.le h u ds r⟩
  | .dit ds, _, ⟨a, ws, e, q, r⟩ => ⟨a, ws, e, h.rd trivial q, RpT.le h u ds r⟩
  | .obj C fs, _, ⟨a, dx, ws, e, q, r⟩ => ⟨a, dx, ws, e, h.at (fun z => z) (fun _ _ => nofun) q, RpF.le h u fs r⟩
  | .hot i, _, ⟨a, e, q⟩ => ⟨a, e, u i a q⟩
  | .cls _, _, r => r
  | .ty _, _, r => r
  | .exn a dd fs, _, ⟨ws, e, q, r⟩ => ⟨ws, e, h.at (fun z => z) (fun _ _ => nofun) q, RpF.le h u fs r⟩
  | .scr ns, _, ⟨a, o, e, q⟩ => ⟨a, o, e, by
      rcases h _ _ q with e | ⟨z, _⟩ | ⟨x, u', e1, z, _⟩
      · exact e
      · exact z.elim
      · cases e1; exact z.elim⟩
theorem RpL.le (h : Le H H') (u : Up η η') : ∀ (ds : List D) {xs : List V}, RpL η H ds xs → RpL η' H' ds xs
  | [], _, r => r
  | d :: ds, _, ⟨v, vs, e, r, t⟩ => ⟨v, vs, e, Rp.le h u d r, RpL.le h u ds t⟩
theorem RpK.le (h : Le H H') (u : Up η η') : ∀ (ds : List (Key × D)) {xs : List (Key × V)}, RpK η H ds xs → RpK η' H' ds xs
  | [], _, r => r
  | (k, d) :: ds, _, ⟨v, vs, e, r, t⟩ => ⟨v, vs, e, Rp.le h u d r, RpK.le h u ds t⟩
theorem RpT.le (h : Le H H') (u : Up η η') : ∀ (ds : List (List Key × D)) {xs : List (List Key × V)}, RpT η H ds xs → RpT η' H' ds xs
  | [], _, r => r
  | (k, d) :: ds, _, ⟨v, vs, e, r, t⟩ => ⟨v, vs, e, Rp.le h u d r, RpT.le h u ds t⟩
theorem RpF.le (h : Le H H') (u : Up η η') : ∀ (ds : List (Str × D)) {xs : List (Str × V)}, RpF η H ds xs → RpF η' H' ds xs
  | [], _, r => r
  | (k, d) :: ds, _, ⟨v, vs, e, r, t⟩ => ⟨v, vs, e, Rp.le h u d r, RpF.le h u ds t⟩
end
theorem Rp.mono (h : Same H H') (d : D) {v : V} (r : Rp η H d v) : Rp η H' d v := Rp.le (.of h) (.refl η) d r
theorem RpL.mono (h : Same H H') (d : List D) {v : List V} (r : RpL η H d v) : RpL η H' d v := RpL.le (.of h) (.refl η) d r
theorem RpK.mono (h : Same H H') (d : List (Key × D)) {v : List (Key × V)} (r : RpK η H d v) : RpK η H' d v := RpK.le (.of h) (.refl η) d r
theorem RpT.mono (h : Same H H') (d : List (List Key × D)) {v : List (List Key × V)} (r : RpT η H d v) : RpT η H' d v := RpT.le (.of h) (.refl η) d r
theorem RpF.mono (h : Same H H') (d : List (Str × D)) {v : List (Str × V)} (r : RpF η H d v) : RpF η H' d v := RpF.le (.of h) (.refl η) d r
theorem RpL.length : ∀ {ds : List D} {xs : List V}, RpL η H ds xs → xs.length = ds.length
  | [], _, r => by rw [show _ = [] from r] <;> rfl
  | d :: ds, _, ⟨v, vs, e, r, t⟩ => by rw [e, List.length_cons, List.length_cons, RpL.length t]
theorem RpL.get : ∀ {ds : List D} {xs : List V}, RpL η H ds xs → ∀ {i : Nat} {x : V}, xs[i]? = some x → ∃ d, ds[i]? = some d ∧ Rp η H d x
  | [], _, r, i, x, e => by
    rw [show _ = [] from r] at e
    simp at e
  | d :: ds, _, ⟨v, vs, e, r, t⟩, 0, x, q => by
    rw [e] at q
    simp at q
    subst q
    exact ⟨d, rfl, r⟩
  | d :: ds, _, ⟨v, vs, e, r, t⟩, i + 1, x, q => by
    rw [e] at q
    exact RpL.get t (i := i) (x := x) (by simpa using q)
theorem RpL.got : ∀ {ds : List D} {xs : List V}, RpL η H ds xs → ∀ {i : Nat} {d : D}, ds[i]? = some d → ∃ x, xs[i]? = some x ∧ Rp η H d x
  | [], _, r, i, x, e => by simp at e
  | d :: ds, _, ⟨v, vs, e, r, t⟩, 0, x, q => by
    simp at q
    subst q
    exact ⟨v, by rw [e]; rfl, r⟩
  | d :: ds, _, ⟨v, vs, e, r, t⟩, i + 1, x, q => by
    obtain ⟨y, h1, h2⟩ := RpL.got t (i := i) (d := x) (by simpa using q)
    exact ⟨y, by rw [e]; simpa using h1, h2⟩
theorem RpL.snoc : ∀ {ds : List D} {xs : List V} {d : D} {v : V}, RpL η H ds xs → Rp η H d v → RpL η H (ds ++ [d]) (xs ++ [v])
  | [], _, d, v, r, q => by
    rw [show _ = [] from r]
    exact ⟨v, [], rfl, q, rfl⟩
  | e :: ds, _, d, v, ⟨w, vs, ew, r, t⟩, q => by
    rw [ew]
    exact ⟨w, vs ++ [v], rfl, r, RpL.snoc t q⟩
theorem RpL.append : ∀ {ds es : List D} {xs ys : List V}, RpL η H ds xs → RpL η H es ys → RpL η H (ds ++ es) (xs ++ ys)
  | [], _, _, _, r, q => by
    rw [show _ = [] from r]
    exact q
  | e :: ds, _, _, _, ⟨w, vs, ew, r, t⟩, q => by
    rw [ew]
    exact ⟨w, _, rfl, r, RpL.append t q⟩
theorem RpL.take : ∀ {ds : List D} {xs : List V} (n : Nat), RpL η H ds xs → RpL η H (ds.take n) (xs.take n)
  | [], _, n, r => by
    rw [show _ = [] from r]
    simp [RpL]
  | e :: ds, _, 0, r => rfl
  | e :: ds, _, n + 1, ⟨w, vs, ew, r, t⟩ => by
    rw [ew]
    exact ⟨w, _, rfl, r, RpL.take n t⟩
theorem RpL.drop : ∀ {ds : List D} {xs : List V} (n : Nat), RpL η H ds xs → RpL η H (ds.drop n) (xs.drop n)
  | [], _, n, r => by
    rw [show _ = [] from r]
    simp [RpL]
  | e :: ds, _, 0, r => r
  | e :: ds, _, n + 1, ⟨w, vs, ew, r, t⟩ => by
    rw [ew]
    exact RpL.drop n t
theorem RpL.strs : ∀ {ss : List Str} {xs : List V}, RpL η H (ss.map D.str) xs → xs = ss.map V.str
  | [], _, r => r
  | s :: ss, _, ⟨w, vs, ew, r, t⟩ => by rw [ew, show w = V.str s from r, RpL.strs t] <;> rfl
theorem RpL.of_strs : ∀ (ss : List Str), RpL η H (ss.map D.str) (ss.map V.str)
  | [] => rfl
  | s :: ss => ⟨_, _, rfl, rfl, RpL.of_strs ss⟩
end

/-- H without what stands at B -/
def cold (B : List Addr) (H : Hp) : Hp := fun a => if a ∈ B then none else H a
theorem cold_of {B : List Addr} {H : Hp} {a : Addr} {o : HO} (h : cold B H a = some o) : H a = some o ∧ a ∉ B := by
  unfold cold at h
  by_cases e : a ∈ B
  · rw [if_pos e] at h; cases h
  · rw [if_neg e] at h; exact ⟨h, e⟩
theorem cold_in {B : List Addr} {H : Hp} {a : Addr} {o : HO} (h : H a = some o) (n : a ∉ B) : cold B H a = some o := by
  unfold cold; rw [if_neg n]; exact h
theorem cold_le {B : List Addr} {H : Hp} : Same (cold B H) H := fun _ _ h => (cold_of h).1
theorem cold_sub {B B' : List Addr} {H : Hp} (h : ∀ a ∈ B, a ∈ B') : Same (cold B' H) (cold B H) := fun a o e => by
  obtain ⟨e1, e2⟩ := cold_of e
  exact cold_in e1 fun z => e2 (h a z)
theorem cold_rd {B : List Addr} {H : Hp} {a : Addr} {u : HO} (h : L2.Rd (cold B H) a u) : L2.Rd H a u := by
  rcases h with h | ⟨o, h⟩
  · exact .inl (cold_of h).1
  · exact .inr ⟨o, (cold_of h).1⟩

def HotRel (η : List Addr) (Hc H : Hp) (a : Addr) : HotO → Prop
  | .lst ds => ∃ xs, H a = some (.lst xs) ∧ RpL η Hc ds xs
  | .dic kvs => ∃ ws, H a = some (.dK ws) ∧ RpK η Hc kvs ws
  | .dit kvs => ∃ ws, H a = some (.dT ws) ∧ RpT η Hc kvs ws
  | .obj C fs => ∃ dx ws, H a = some (.ins C dx ws) ∧ RpF η Hc fs ws
  | .dead => True
/-- where one stands: η the addresses of the hot objects, B ⊇ η all that is hidden -/
structure Wd (η B : List Addr) (S : Sto) (H : Hp) : Prop where
  sub : ∀ a ∈ η, a ∈ B
  live : ∀ b ∈ B, H b ≠ none
  nd : η.Nodup
  len : η.length = S.length
  hot : ∀ (i : Nat) (a : Addr) (o : HotO), η[i]? = some a → S[i]? = some o → HotRel η (cold B H) H a o
/-- some steps on: hot objects may have come -/
structure Nx (η B η' B' : List Addr) (S' : Sto) (H H' : Hp) : Prop where
  wd : Wd η' B' S' H'
  up : Up η η'
  s0 : ∀ a ∈ η, a ∈ B
  nw : ∀ a ∈ η', a ∈ η ∨ H a = none
  fr : ∀ b ∈ B', b ∈ B ∨ H b = none
  sb : ∀ b ∈ B, b ∈ B'
  kp : ∀ a o, a ∉ η → H a = some o → H' a = some o
section
variable {η B η' B' η'' B'' : List Addr} {S S' S'' : Sto} {H H' H'' : Hp}
theorem Wd.refl (w : Wd η B S H) : Nx η B η B S H H := ⟨w, .refl η, w.sub, fun _ h => .inl h, fun _ h => .inl h, fun _ h => h, fun _ _ _ e => e⟩
theorem Up.trans (a : Up η η') (b : Up η' η'') : Up η η'' := fun i x h => b i x (a i x h)
theorem Nx.back (n : Nx η B η' B' S' H H') {p : Addr} (h : H' p = none) : H p = none := by
  cases q : H p with
  | none => rfl
  | some o =>
    by_cases e : p ∈ η
    · exact absurd h (n.wd.live p (n.sb p (n.s0 p e)))
    · rw [n.kp p o e q] at h; cases h
theorem Nx.trans (a : Nx η B η' B' S' H H') (b : Nx η' B' η'' B'' S'' H' H'') : Nx η B η'' B'' S'' H H'' :=
  ⟨b.wd, a.up.trans b.up, a.s0, fun x hx => by
    rcases b.nw x hx with h | h
    · exact a.nw x h
    · exact .inr (a.back h), fun x hx => by
    rcases b.fr x hx with h | h
    · exact a.fr x h
    · exact .inr (a.back h), fun x hx => b.sb x (a.sb x hx), fun x o n e => b.kp x o (fun hx => by
      rcases a.nw x hx with h | h
      · exact n h
      · rw [h] at e; cases e) (a.kp x o n e)⟩
theorem Nx.same (n : Nx η B η' B' S' H H') : Same (cold B H) (cold B' H') := fun x o e => by
  obtain ⟨e1, e2⟩ := cold_of e
  exact cold_in (n.kp x o (fun z => e2 (n.s0 x z)) e1) fun z => by
    rcases n.fr x z with h | h
    · exact e2 h
    · rw [h] at e1; cases e1
theorem Nx.rp (n : Nx η B η' B' S' H H') {d : D} {v : V} (r : Rp η (cold B H) d v) : Rp η' (cold B' H') d v := Rp.le (.of n.same) n.up d r
theorem Nx.rpL (n : Nx η B η' B' S' H H') {d : List D} {v : List V} (r : RpL η (cold B H) d v) : RpL η' (cold B' H') d v := RpL.le (.of n.same) n.up d r
theorem Nx.rpK (n : Nx η B η' B' S' H H') {d : List (Key × D)} {v : List (Key × V)} (r : RpK η (cold B H) d v) : RpK η' (cold B' H') d v := RpK.le (.of n.same) n.up d r
theorem Nx.rpT (n : Nx η B η' B' S' H H') {d : List (List Key × D)} {v : List (List Key × V)} (r : RpT η (cold B H) d v) : RpT η' (cold B' H') d v := RpT.le (.of n.same) n.up d r
theorem Nx.rpF (n : Nx η B η' B' S' H H') {d : List (Str × D)} {v : List (Str × V)} (r : RpF η (cold B H) d v) : RpF η' (cold B' H') d v := RpF.le (.of n.same) n.up d r
theorem Wd.fresh (w : Wd η B S H) {p : Addr} (h : H p = none) : p ∉ B := fun z => w.live p z h
theorem HotRel.le {Hc Hc' : Hp} {a : Addr} {o : HotO} (h : Le Hc Hc') (u : Up η η') (e : ∀ u, H a = some u → H' a = some u) (r : HotRel η Hc H a o) : HotRel η' Hc' H' a o := by
  cases o with
  | lst ds => obtain ⟨xs, q, t⟩ := r; exact ⟨xs, e _ q, RpL.le h u _ t⟩
  | dic ds => obtain ⟨xs, q, t⟩ := r; exact ⟨xs, e _ q, RpK.le h u _ t⟩
  | dit ds => obtain ⟨xs, q, t⟩ := r; exact ⟨xs, e _ q, RpT.le h u _ t⟩
  | obj C ds => obtain ⟨dx, xs, q, t⟩ := r; exact ⟨dx, xs, e _ q, RpF.le h u _ t⟩
  | dead => trivial
theorem HotRel.mono {Hc Hc' : Hp} {a : Addr} {o : HotO} (h : Same Hc Hc') (e : ∀ u, H a = some u → H' a = some u) (r : HotRel η Hc H a o) : HotRel η Hc' H' a o := r.le (.of h) (.refl η) e
/-- all that was tracked stands -/
theorem Wd.grow (w : Wd η B S H) (h : Same H H') : Nx η B η B S H H' := by
  have hc : Same (cold B H) (cold B H') := fun x o e => by
    obtain ⟨e1, e2⟩ := cold_of e
    exact cold_in (h x o e1) e2
  refine ⟨⟨w.sub, fun b hb z => ?_, w.nd, w.len, fun i a o hi ho => (w.hot i a o hi ho).mono hc fun u q => h _ _ q⟩, .refl η, w.sub, fun _ h => .inl h, fun _ h => .inl h, fun _ h => h, fun a o _ e => h a o e⟩
  cases q : H b with
  | none => exact w.live b hb q
  | some u => rw [h b u q] at z; cases z
theorem same_new {H : Hp} {p : Addr} {o : HO} (h : H p = none) : Same H (upd H p o) := fun b x e => by
  rw [upd_ne (ne_of_none e h)]
  exact e
theorem Wd.new (w : Wd η B S H) {p : Addr} {o : HO} (h : H p = none) : Nx η B η B S H (upd H p o) := w.grow (same_new h)
theorem Wd.cold_new (w : Wd η B S H) {p : Addr} {o : HO} (h : H p = none) : cold B (upd H p o) p = some o := cold_in upd_same (w.fresh h)
end
/-- the names' slots -/
def Sl (η : List Addr) (Hc : Hp) (σ : L2.St) (ρ : Env) : Prop := σ.length = ρ.length ∧ ∀ (i : Nat) (d : D), ρ[i]? = some (some d) → ∃ v, σ[i]? = some (some v) ∧ Rp η Hc d v
theorem Sl.le {η η' : List Addr} {H H' : Hp} {σ : L2.St} {ρ : Env} (h : Le H H') (u : Up η η') (s : Sl η H σ ρ) : Sl η' H' σ ρ := ⟨s.1, fun i d e => by
  obtain ⟨v, e1, r⟩ := s.2 i d e
  exact ⟨v, e1, Rp.le h u d r⟩⟩
theorem Sl.mono {η : List Addr} {H H' : Hp} {σ : L2.St} {ρ : Env} (h : Same H H') (s : Sl η H σ ρ) : Sl η H' σ ρ := s.le (.of h) (.refl η)
theorem Nx.sl {η B η' B' : List Addr} {S' : Sto} {H H' : Hp} (n : Nx η B η' B' S' H H') {σ : L2.St} {ρ : Env} (s : Sl η (cold B H) σ ρ) : Sl η' (cold B' H') σ ρ := s.le (.of n.same) n.up
theorem Sl.set {η : List Addr} {H : Hp} {σ : L2.St} {ρ : Env} {i : Nat} {d : D} {v : V} (s : Sl η H σ ρ) (r : Rp η H d v) : Sl η H (σ.set i (some v)) (ρ.set i (some d)) := by
  refine ⟨by rw [List.length_set, List.length_set]; exact s.1, fun j e h => ?_⟩
  by_cases hj : i = j
  · subst hj
    by_cases hl : i < ρ.length
    · rw [List.getElem?_set_self hl] at h
      cases h
      exact ⟨v, List.getElem?_set_self (by rw [s.1]; exact hl), r⟩
    · rw [List.getElem?_eq_none (by rw [List.length_set]; omega)] at h
      cases h
  · rw [List.getElem?_set_ne hj] at h
    obtain ⟨u, e1, q⟩ := s.2 j e h
    exact ⟨u, by rw [List.getElem?_set_ne hj]; exact e1, q⟩

/-! ### judgements -/
/-- T (a reading at one place) gives r -/
def Ev {α β : Type} (R : List Addr → Hp → α → β → Prop) (η B : List Addr) (E : XK) (T : (β → Hp → Prop) → Prop) (H : Hp) : Res α → Prop
  | .ok a S' => ∀ Q : β → Hp → Prop, (∀ b η' B' H', Nx η B η' B' S' H H' → R η' (cold B' H') a b → Q b H') → T Q
  | .exc C fs S' => ∀ Q : β → Hp → Prop, (∀ dd ws η' B' H', Nx η B η' B' S' H H' → H dd = none → cold B' H' dd = some (.xd ws) → RpF η' (cold B' H') fs ws → E (.ref C) (some dd) H') → T Q
  | .bad => True
theorem Ev.bind {α β α' β' : Type} {R : List Addr → Hp → α → β → Prop} {R' : List Addr → Hp → α' → β' → Prop} {η B : List Addr} {E : XK} {T : (β → Hp → Prop) → Prop} {T' : β → Hp → (β' → Hp → Prop) → Prop} {H : Hp} {r : Res α} {k : α → Sto → Res α'}
    (h : Ev R η B E T H r) (hk : ∀ a S1 b η1 B1 H1, Nx η B η1 B1 S1 H H1 → R η1 (cold B1 H1) a b → Ev R' η1 B1 E (T' b H1) H1 (k a S1)) : Ev R' η B E (fun Q => T fun b H1 => T' b H1 Q) H (r.bind k) := by
  cases r with
  | bad => trivial
  | exc C fs S1 => exact fun Q q => h _ q
  | ok a S1 =>
    show Ev R' η B E _ H (k a S1)
    cases e : k a S1 with
    | bad => trivial
    | ok a2 S2 =>
      intro Q q
      refine h _ fun b η1 B1 H1 n1 r1 => ?_
      have z := hk a S1 b η1 B1 H1 n1 r1
      rw [e] at z
      exact z Q fun b2 η2 B2 H2 n2 r2 => q b2 η2 B2 H2 (n1.trans n2) r2
    | exc C fs S2 =>
      intro Q q
      refine h _ fun b η1 B1 H1 n1 r1 => ?_
      have z := hk a S1 b η1 B1 H1 n1 r1
      rw [e] at z
      exact z Q fun dd ws η2 B2 H2 n2 hd h2 f2 => q dd ws η2 B2 H2 (n1.trans n2) (n1.back hd) h2 f2
theorem Ev.now {α β : Type} {R : List Addr → Hp → α → β → Prop} {η B : List Addr} {E : XK} {H : Hp} {S : Sto} {a : α} {b : β} (w : Wd η B S H) (r : R η (cold B H) a b) : Ev R η B E (fun Q => Q b H) H (.ok a S) := fun Q q => q b η B H w.refl r
abbrev EvD (η B : List Addr) (E : XK) (T : VK → Prop) (H : Hp) : Res D → Prop := Ev (fun η Hc d v => Rp η Hc d v) η B E T H
abbrev EvA (η B : List Addr) (E : XK) (T : (List V → Hp → Prop) → Prop) (H : Hp) : Res (List D) → Prop := Ev (fun η Hc d v => RpL η Hc d v) η B E T H
abbrev EvT (η B : List Addr) (E : XK) (T : (Bool → Hp → Prop) → Prop) (H : Hp) : Res Bool → Prop := Ev (fun _ _ b c => b = c) η B E T H
abbrev EK := L2.St → XK
def SoE (E : EK) (t : TE) (F : Env → Sto → Res D) : Prop := ∀ η B S σ ρ H, Wd η B S H → Sl η (cold B H) σ ρ → EvD η B (E σ) (t σ H) H (F ρ S)
def SoA (E : EK) (t : TA) (F : Env → Sto → Res (List D)) : Prop := ∀ η B S σ ρ H, Wd η B S H → Sl η (cold B H) σ ρ → EvA η B (E σ) (t σ H) H (F ρ S)
def SoT (E : EK) (t : TT) (F : Env → Sto → Res Bool) : Prop := ∀ η B S σ ρ H, Wd η B S H → Sl η (cold B H) σ ρ → EvT η B (E σ) (t σ H) H (F ρ S)
def DE (X : Cx) (E : EK) (e : Expr) (t : TE) (F : Env → Sto → Res D) : Prop := PE X e t ∧ SoE E t F
def DA (X : Cx) (E : EK) (es : List Expr) (t : TA) (F : Env → Sto → Res (List D)) : Prop := PA X es t ∧ SoA E t F
def DT (X : Cx) (E : EK) (e : Expr) (t : TT) (F : Env → Sto → Res Bool) : Prop := PT X e t ∧ SoT E t F
def DW (X : Cx) (E : EK) (e : Expr) (t : TT) (F : Env → Sto → Res Bool) : Prop := PW X e t ∧ SoT E t F
/-! ### views: cold or hot -/
def vL (S : Sto) : D → Option (List D)
  | .lst l => some l
  | .hot i => match S[i]? with
    | some (.lst l) => some l
    | _ => none
  | _ => none
def vK (S : Sto) : D → Option (List (Key × D))
  | .dic l => some l
  | .hot i => match S[i]? with
    | some (.dic l) => some l
    | _ => none
  | _ => none
def vT (S : Sto) : D → Option (List (List Key × D))
  | .dit l => some l
  | .hot i => match S[i]? with
    | some (.dit l) => some l
    | _ => none
  | _ => none
def vO (S : Sto) : D → Option (Addr × List (Str × D))
  | .obj C l => some (C, l)
  | .hot i => match S[i]? with
    | some (.obj C l) => some (C, l)
    | _ => none
  | _ => none
@[simp] theorem vL_lst (S : Sto) (l : List D) : vL S (.lst l) = some l := rfl
@[simp] theorem vK_dic (S : Sto) (l : List (Key × D)) : vK S (.dic l) = some l := rfl
@[simp] theorem vT_dit (S : Sto) (l : List (List Key × D)) : vT S (.dit l) = some l := rfl
@[simp] theorem vO_obj (S : Sto) (C : Addr) (l : List (Str × D)) : vO S (.obj C l) = some (C, l) := rfl
section
variable {η B : List Addr} {S : Sto} {H : Hp} {d : D} {v : V}
theorem Wd.hotAt (w : Wd η B S H) {i : Nat} {o : HotO} (r : Rp η (cold B H) (.hot i) v) (h : S[i]? = some o) : ∃ a, v = .ref a ∧ η[i]? = some a ∧ HotRel η (cold B H) H a o := by
  obtain ⟨a, e, q⟩ := r
  exact ⟨a, e, q, w.hot i a o q h⟩
theorem Wd.seeL (w : Wd η B S H) {l : List D} (r : Rp η (cold B H) d v) (h : vL S d = some l) : ∃ a xs, v = .ref a ∧ H a = some (.lst xs) ∧ RpL η (cold B H) l xs := by
  cases d <;> first | (cases h; done) | skip
  · cases h
    obtain ⟨a, xs, e, q, t⟩ := r
    exact ⟨a, xs, e, (cold_of q).1, t⟩
  · unfold vL at h
    dsimp only at h
    split at h <;> cases h
    rename_i q
    obtain ⟨a, e, _, xs, t⟩ := w.hotAt r q
    exact ⟨a, xs, e, t⟩
theorem Wd.seeK (w : Wd η B S H) {l : List (Key × D)} (r : Rp η (cold B H) d v) (h : vK S d = some l) : ∃ a ws, v = .ref a ∧ L2.Rd H a (.dK ws) ∧ RpK η (cold B H) l ws := by
  cases d <;> first | (cases h; done) | skip
  · cases h
    obtain ⟨a, xs, e, q, t⟩ := r
    exact ⟨a, xs, e, cold_rd q, t⟩
  · unfold vK at h
    dsimp only at h
    split at h <;> cases h
    rename_i q
    obtain ⟨a, e, _, xs, t1, t⟩ := w.hotAt r q
    exact ⟨a, xs, e, .inl t1, t⟩
theorem Wd.seeT (w : Wd η B S H) {l : List (List Key × D)} (r : Rp η (cold B H) d v) (h : vT S d = some l) : ∃ a ws, v = .ref a ∧ L2.Rd H a (.dT ws) ∧ RpT η (cold B H) l ws := by
  cases d <;> first | (cases h; done) | skip
  · cases h
    obtain ⟨a, xs, e, q, t⟩ := r
    exact ⟨a, xs, e, cold_rd q, t⟩
  · unfold vT at h
    dsimp only at h
    split at h <;> cases h
    rename_i q
    obtain ⟨a, e, _, xs, t1, t⟩ := w.hotAt r q
    exact ⟨a, xs, e, .inl t1, t⟩
theorem Wd.seeO (w : Wd η B S H) {C : Addr} {l : List (Str × D)} (r : Rp η (cold B H) d v) (h : vO S d = some (C, l)) : ∃ a dx ws, v = .ref a ∧ H a = some (.ins C dx ws) ∧ RpF η (cold B H) l ws := by
  cases d <;> first | (cases h; done) | skip
  · cases h
    obtain ⟨a, dx, xs, e, q, t⟩ := r
    exact ⟨a, dx, xs, e, (cold_of q).1, t⟩
  · unfold vO at h
    dsimp only at h
    split at h <;> cases h
    rename_i q
    obtain ⟨a, e, _, dx, xs, t⟩ := w.hotAt r q
    exact ⟨a, dx, xs, e, t⟩
end
end DL
set_option Elab.async false
set_option linter.all false
set_option maxRecDepth 100000
set_option maxHeartbeats 4000000
set_option autoImplicit false
namespace DL
open PySem PySem.Spec PyProof.Rows L2
section
variable {X : Cx} {E : EK} {e a b c : Expr} {es : List Expr} {pos p : Pos} {Fa Fb Fc : Env → Sto → Res D} {ta tb tc : TE}
/-! ### names and constants -/
@[simp] def getD' (ρ : Env) (i : Nat) : Option D := (ρ[i]?).join
@[simp] def fVar (i : Nat) : Env → Sto → Res D := fun ρ S => lift (getD' ρ i) S
@[simp] def fC (d : D) : Env → Sto → Res D := fun _ S => .ok d S
theorem de_var (i : Nat) {x : Str} (hN : X.N[i]? = some x := by rfl) (hv : Vis X.env.scope x := by first | exact Or.inl rfl | exact Or.inr (Or.inl rfl) | exact Or.inr (Or.inr rfl)) (hd : (x == ("__debug__" : Str)) = false := by decide)
    (hcd : (x == ("__classdict__" : Str)) = false := by decide) : DE X E (.Name x pos) (tVar i) (fVar i) := by
  refine ⟨pv i hN hv hd hcd, fun η B S σ ρ H w s => ?_⟩
  show EvD η B (E σ) _ H (lift (getD' ρ i) S)
  cases q : getD' ρ i with
  | none => trivial
  | some d =>
    have q' : ρ[i]? = some (some d) := by
      unfold getD' at q
      cases z : ρ[i]? with
      | none => rw [z] at q; cases q
      | some y => rw [z] at q; exact congrArg some q
    obtain ⟨v, e1, r⟩ := s.2 i d q'
    exact fun Q k => ⟨v, e1, k v η B H w.refl r⟩
theorem de_of {t : TE} {d : D} {v : V} (h : PE X e (tC v)) (r : ∀ η H, Rp η H d v) : DE X E e (tC v) (fC d) :=
  ⟨h, fun η B S σ ρ H w s Q k => k v η B H w.refl (r η _)⟩
theorem de_int {i : Int} {j} : DE X E (.Constant (.int i) j pos) (tC (.int i)) (fC (.int i)) := de_of (t := tC (.int i)) pe_int fun _ _ => rfl
theorem de_str {x : Str} {j} : DE X E (.Constant (.str x) j pos) (tC (.str x)) (fC (.str x)) := de_of (t := tC (.str x)) pe_str fun _ _ => rfl
theorem de_bl {x : Bool} {j} : DE X E (.Constant (.bool x) j pos) (tC (.bl x)) (fC (.bl x)) := de_of (t := tC (.bl x)) pe_bl fun _ _ => rfl
theorem de_non {j} : DE X E (.Constant .none j pos) (tC .non) (fC .non) := de_of (t := tC .non) pe_non fun _ _ => rfl
theorem de_gInt {x : Str} {i : Int} {t : Tok} (hm : X.mg x = some (.int i t)) (hg : Gl X x := by rfl) (hd : (x == ("__debug__" : Str)) = false := by decide) : DE X E (.Name x pos) (tC (.int i)) (fC (.int i)) :=
  de_of (t := tC (.int i)) (pe_glob (v := .int i) hg hm ⟨_, rfl⟩ hd) fun _ _ => rfl
theorem de_gStr {x y : Str} {t : Tok} (hm : X.mg x = some (.str y t)) (hg : Gl X x := by rfl) (hd : (x == ("__debug__" : Str)) = false := by decide) : DE X E (.Name x pos) (tC (.str y)) (fC (.str y)) :=
  de_of (t := tC (.str y)) (pe_glob (v := .str y) hg hm ⟨_, rfl⟩ hd) fun _ _ => rfl
theorem de_gRef {x : Str} {f : Addr} (hm : X.mg x = some (.ref f)) (hg : Gl X x := by rfl) (hd : (x == ("__debug__" : Str)) = false := by decide) : DE X E (.Name x pos) (tC (.ref f)) (fC (.cls f)) :=
  de_of (t := tC (.ref f)) (pe_glob (v := .ref f) hg hm rfl hd) fun _ _ => rfl
theorem de_ty {x : Str} (n : String) (hm : X.mg x = none) (hv : bootBuiltins x = some (.type n)) (hg : Gl X x := by rfl) (hn : x ≠ "__name__" := by decide) (hd : (x == ("__debug__" : Str)) = false := by decide) : DE X E (.Name x pos) (tC (.ty n)) (fC (.ty n)) :=
  de_of (t := tC (.ty n)) (pe_bltn (v := .ty n) hg hm hv rfl hn hd) fun _ _ => rfl
/-! ### operators -/
def V2 (r : R2) (f : Sto → D → D → Option D) : Prop := ∀ (E : XK) (η B : List Addr) (S : Sto) (H : Hp) (x y : D) (u v : V), Wd η B S H → Rp η (cold B H) x u → Rp η (cold B H) y v → EvD η B E (r u v H) H (lift (f S x y) S)
@[simp] def bin (f : Sto → D → D → Option D) (Fa Fb : Env → Sto → Res D) : Env → Sto → Res D := fun ρ S => (Fa ρ S).bind fun x S1 => (Fb ρ S1).bind fun y S2 => lift (f S2 x y) S2
theorem ev_two {r : R2} {f : Sto → D → D → Option D} (hr : V2 r f) {η B : List Addr} {S : Sto} {σ : L2.St} {ρ : Env} {H : Hp} (w : Wd η B S H) (s : Sl η (cold B H) σ ρ)
    (ha : SoE E ta Fa) (hb : SoE E tb Fb) : EvD η B (E σ) (tOp r ta tb σ H) H (bin f Fa Fb ρ S) :=
  Ev.bind (T := ta σ H) (T' := fun x H1 Q => tb σ H1 fun y H2 => r x y H2 Q) (ha η B S σ ρ H w s) fun x S1 u η1 B1 H1 n1 r1 =>
    Ev.bind (T := tb σ H1) (T' := fun y H2 Q => r u y H2 Q) (hb η1 B1 S1 σ ρ H1 n1.wd (n1.sl s)) fun y S2 v η2 B2 H2 n2 r2 => hr (E σ) η2 B2 S2 H2 x y u v n2.wd (n2.rp r1) r2
theorem de_op {op} {r : R2} {f : Sto → D → D → Option D} (ho : OpR X (binaryOp op) r) (hr : V2 r f) (ha : DE X E a ta Fa) (hb : DE X E b tb Fb) : DE X E (.BinOp a op b pos) (tOp r ta tb) (bin f Fa Fb) := by
  obtain ⟨pa, ea⟩ := ha
  obtain ⟨pb, eb⟩ := hb
  exact ⟨pe_op ho pa pb, fun η B S σ ρ H w s => ev_two hr w s ea eb⟩
theorem de_cmp {op} {r : R2} {f : Sto → D → D → Option D} (ho : OpR X (compareOp op) r) (hr : V2 r f) (ha : DE X E a ta Fa) (hb : DE X E b tb Fb) (hm : behindInMarks op b = false) : DE X E (.Compare a [op] [b] pos) (tOp r ta tb) (bin f Fa Fb) := by
  obtain ⟨pa, ea⟩ := ha
  obtain ⟨pb, eb⟩ := hb
  exact ⟨pe_cmpR ho pa pb hm, fun η B S σ ρ H w s => ev_two hr w s ea eb⟩
/-! ### tests -/
@[simp] def asB : D → Option Bool
  | .bl b => some b
  | _ => none
@[simp] def tst (F : Env → Sto → Res D) : Env → Sto → Res Bool := fun ρ S => (F ρ S).bind fun d S1 => lift (asB d) S1
theorem dt_val (h : DE X E e ta Fa) (he : ∀ whole, isTrue e X.env whole = (do let v ← whole; standAt e.pos; holding [v] (truthy v)) := by intro _; rfl) : DT X E e (tB ta) (tst Fa) := by
  obtain ⟨p, q⟩ := h
  refine ⟨pt_val p he, fun η B S σ ρ H w s => ?_⟩
  refine Ev.bind (T := ta σ H) (T' := fun x H1 Q => ∃ k, x = .bl k ∧ Q k H1) (q η B S σ ρ H w s) fun d S1 v η1 B1 H1 n1 r1 => ?_
  cases d <;> first | trivial | exact fun Q k => ⟨_, r1, k _ η1 B1 H1 n1.wd.refl rfl⟩
/-- a comparison as a test -/
theorem dt_cmp {op} {r : R2} {f : Sto → D → D → Option D} (ho : OpR X (compareOp op) r) (hr : V2 r f) (ha : DE X E a ta Fa) (hb : DE X E b tb Fb) (hm : behindInMarks op b = false) : DT X E (.Compare a [op] [b] pos) (tTest (tOp r ta tb)) (tst (bin f Fa Fb)) := by
  obtain ⟨pa, ea⟩ := ha
  obtain ⟨pb, eb⟩ := hb
  refine ⟨pt_cmpR ho pa pb hm, fun η B S σ ρ H w s => ?_⟩
  refine Ev.bind (T := tOp r ta tb σ H) (T' := fun x H1 Q => ∃ k, x = .bl k ∧ Q k H1) (ev_two hr w s ea eb) fun d S1 v η1 B1 H1 n1 r1 => ?_
  cases d <;> first | trivial | exact fun Q k => ⟨_, r1, k _ η1 B1 H1 n1.wd.refl rfl⟩
@[simp] def notB (F : Env → Sto → Res Bool) : Env → Sto → Res Bool := fun ρ S => (F ρ S).bind fun b S1 => .ok (!b) S1
variable {Ta Tb : Env → Sto → Res Bool} {ua ub : TT} {rest : List Expr}
theorem dt_not (h : DT X E a ua Ta) : DT X E (.UnaryOp .Not a pos) (tNot ua) (notB Ta) := by
  obtain ⟨p, q⟩ := h
  refine ⟨pt_not p, fun η B S σ ρ H w s => ?_⟩
  refine Ev.bind (T := ua σ H) (T' := fun c H1 Q => Q (!c) H1) (q η B S σ ρ H w s) fun d S1 v η1 B1 H1 n1 r1 => ?_
  subst r1
  exact Ev.now n1.wd rfl
theorem dw_pt (h : DW X E e ua Ta) : DT X E e ua Ta := by
  obtain ⟨p, q⟩ := h
  exact ⟨PW.pt p, q⟩
@[simp] def orB (F G : Env → Sto → Res Bool) : Env → Sto → Res Bool := fun ρ S => (F ρ S).bind fun b S1 => if b = true then .ok true S1 else G ρ S1
@[simp] def andB (F G : Env → Sto → Res Bool) : Env → Sto → Res Bool := fun ρ S => (F ρ S).bind fun b S1 => if b = true then G ρ S1 else .ok false S1
theorem dw_or1 (h : DT X E a ua Ta) : DW X E (.BoolOp .Or [a] pos) ua Ta := by
  obtain ⟨p, q⟩ := h
  exact ⟨pw_or1 p, q⟩
theorem dw_and1 (h : DT X E a ua Ta) : DW X E (.BoolOp .And [a] pos) ua Ta := by
  obtain ⟨p, q⟩ := h
  exact ⟨pw_and1 p, q⟩
theorem dw_or (h : DT X E a ua Ta) (h2 : DW X E (.BoolOp .Or (b :: rest) pos) ub Tb) : DW X E (.BoolOp .Or (a :: b :: rest) pos) (tOr ua ub) (orB Ta Tb) := by
  obtain ⟨p, q⟩ := h
  obtain ⟨p2, q2⟩ := h2
  refine ⟨pw_or p p2, fun η B S σ ρ H w s => ?_⟩
  refine Ev.bind (T := ua σ H) (T' := fun c H1 Q => if c = true then Q true H1 else ub σ H1 Q) (q η B S σ ρ H w s) fun d S1 v η1 B1 H1 n1 r1 => ?_
  subst r1
  cases d with
  | true => exact fun Q k => k true η1 B1 H1 n1.wd.refl rfl
  | false => exact q2 η1 B1 S1 σ ρ H1 n1.wd (n1.sl s)
theorem dw_and (h : DT X E a ua Ta) (h2 : DW X E (.BoolOp .And (b :: rest) pos) ub Tb) : DW X E (.BoolOp .And (a :: b :: rest) pos) (tAnd ua ub) (andB Ta Tb) := by
  obtain ⟨p, q⟩ := h
  obtain ⟨p2, q2⟩ := h2
  refine ⟨pw_and p p2, fun η B S σ ρ H w s => ?_⟩
  refine Ev.bind (T := ua σ H) (T' := fun c H1 Q => if c = true then ub σ H1 Q else Q false H1) (q η B S σ ρ H w s) fun d S1 v η1 B1 H1 n1 r1 => ?_
  subst r1
  cases d with
  | false => exact fun Q k => k false η1 B1 H1 n1.wd.refl rfl
  | true => exact q2 η1 B1 S1 σ ρ H1 n1.wd (n1.sl s)
/-- a op b op' c -/
@[simp] def chn (f g : Sto → D → D → Option D) (Fa Fb Fc : Env → Sto → Res D) : Env → Sto → Res D := fun ρ S => (Fa ρ S).bind fun x S1 => (Fb ρ S1).bind fun y S2 => (lift (f S2 x y) S2).bind fun z S3 => (lift (asB z) S3).bind fun k S4 =>
  if k = true then (Fc ρ S4).bind fun u S5 => lift (g S5 y u) S5 else .ok (.bl false) S4
theorem ev_chain {r r' : R2} {f g : Sto → D → D → Option D} (hr : V2 r f) (hr' : V2 r' g) {η B : List Addr} {S : Sto} {σ : L2.St} {ρ : Env} {H : Hp} (w : Wd η B S H) (s : Sl η (cold B H) σ ρ)
    (ha : SoE E ta Fa) (hb : SoE E tb Fb)
    (hc : SoE E tc Fc) : EvD η B (E σ) (tChain r r' ta tb tc σ H) H (chn f g Fa Fb Fc ρ S) := by
  refine Ev.bind (T := ta σ H) (T' := fun x H1 Q => tb σ H1 fun y H2 => r x y H2 fun z H3 => ∃ k, z = .bl k ∧ (if k = true then tc σ H3 fun w' H4 => r' y w' H4 Q else Q (.bl false) H3)) (ha η B S σ ρ H w s) fun x S1 u η1 B1 H1 n1 r1 => ?_
  refine Ev.bind (T := tb σ H1) (T' := fun y H2 Q => r u y H2 fun z H3 => ∃ k, z = .bl k ∧ (if k = true then tc σ H3 fun w' H4 => r' y w' H4 Q else Q (.bl false) H3)) (hb η1 B1 S1 σ ρ H1 n1.wd (n1.sl s)) fun y S2 v η2 B2 H2 n2 r2 => ?_
  refine Ev.bind (T := r u v H2) (T' := fun z H3 Q => ∃ k, z = .bl k ∧ (if k = true then tc σ H3 fun w' H4 => r' v w' H4 Q else Q (.bl false) H3)) (hr (E σ) η2 B2 S2 H2 x y u v n2.wd (n2.rp r1) r2) fun z S3 z' η3 B3 H3 n3 r3 => ?_
  cases z <;> first | trivial | skip
  rename_i k
  obtain rfl : z' = .bl k := r3
  show EvD η3 B3 (E σ) _ H3 (if k = true then _ else _)
  cases k with
  | false => exact fun Q q => ⟨false, rfl, q _ η3 B3 H3 n3.wd.refl rfl⟩
  | true =>
    have z := Ev.bind (R := fun η Hc d v => Rp η Hc d v) (R' := fun η Hc d v => Rp η Hc d v) (T := tc σ H3) (T' := fun w' H4 Q => r' v w' H4 Q) (hc η3 B3 S3 σ ρ H3 n3.wd (n3.sl (n2.sl (n1.sl s)))) fun u' S5 v' η5 B5 H5 n5 r5 =>
      hr' (E σ) η5 B5 S5 H5 y u' v v' n5.wd (n5.rp (n3.rp r2)) r5
    show EvD η3 B3 (E σ) (fun Q => ∃ k, V.bl true = .bl k ∧ (if k = true then tc σ H3 fun w' H4 => r' v w' H4 Q else Q (.bl false) H3)) H3 ((Fc ρ S3).bind fun u S5 => lift (g S5 y u) S5)
    revert z
    generalize ((Fc ρ S3).bind fun u S5 => lift (g S5 y u) S5) = rr
    intro z
    cases rr with
    | bad => trivial
    | ok d S' => exact fun Q q => ⟨true, rfl, z Q q⟩
    | exc C fs S' => exact fun Q q => ⟨true, rfl, z Q q⟩
theorem de_chain {op op' : CmpOp} {r r' : R2} {f g : Sto → D → D → Option D} (ho : OpR X (compareOp op) r) (ho' : OpR X (compareOp op') r') (hr : V2 r f) (hr' : V2 r' g) (ha : DE X E a ta Fa) (hb : DE X E b tb Fb) (hc : DE X E c tc Fc) (hm : lastMarks [op, op'] [b, c] = false := by rfl) :
    DE X E (.Compare a [op, op'] [b, c] pos) (tChain r r' ta tb tc) (chn f g Fa Fb Fc) := by
  obtain ⟨pa, ea⟩ := ha
  obtain ⟨pb, eb⟩ := hb
  obtain ⟨pc, ec⟩ := hc
  exact ⟨pe_chain ho ho' pa pb pc hm, fun η B S σ ρ H w s => ev_chain hr hr' w s ea eb ec⟩
theorem dt_chain {op op' : CmpOp} {r r' : R2} {f g : Sto → D → D → Option D} (ho : OpR X (compareOp op) r) (ho' : OpR X (compareOp op') r') (hr : V2 r f) (hr' : V2 r' g) (ha : DE X E a ta Fa) (hb : DE X E b tb Fb) (hc : DE X E c tc Fc) (hm : lastMarks [op, op'] [b, c] = false := by rfl) :
    DT X E (.Compare a [op, op'] [b, c] pos) (tTest (tChain r r' ta tb tc)) (tst (chn f g Fa Fb Fc)) := by
  obtain ⟨pa, ea⟩ := ha
  obtain ⟨pb, eb⟩ := hb
  obtain ⟨pc, ec⟩ := hc
  refine ⟨pt_chain ho ho' pa pb pc hm, fun η B S σ ρ H w s => ?_⟩
  refine Ev.bind (T := tChain r r' ta tb tc σ H) (T' := fun x H1 Q => ∃ k, x = .bl k ∧ Q k H1) (ev_chain hr hr' w s ea eb ec) fun d S1 v η1 B1 H1 n1 r1 => ?_
  cases d <;> first | trivial | exact fun Q k => ⟨_, r1, k _ η1 B1 H1 n1.wd.refl rfl⟩
/-! ### boolean operators as values; a if t else b -/
@[simp] def orV (F G : Env → Sto → Res D) : Env → Sto → Res D := fun ρ S => (F ρ S).bind fun d S1 => (lift (asB d) S1).bind fun b S2 => if b = true then .ok (.bl true) S2 else G ρ S2
@[simp] def andV (F G : Env → Sto → Res D) : Env → Sto → Res D := fun ρ S => (F ρ S).bind fun d S1 => (lift (asB d) S1).bind fun b S2 => if b = true then G ρ S2 else .ok (.bl false) S2
theorem de_one {op} (h : DE X E a ta Fa) : DE X E (.BoolOp op [a] pos) ta Fa := by
  obtain ⟨p, q⟩ := h
  exact ⟨pe_one p, q⟩
theorem de_or (h : DE X E a ta Fa) (h2 : DE X E (.BoolOp .Or (b :: rest) pos) tb Fb) : DE X E (.BoolOp .Or (a :: b :: rest) pos) (tOrV ta tb) (orV Fa Fb) := by
  obtain ⟨p, q⟩ := h
  obtain ⟨p2, q2⟩ := h2
  refine ⟨pe_or p p2, fun η B S σ ρ H w s => ?_⟩
  refine Ev.bind (T := ta σ H) (T' := fun x H1 Q => ∃ c, x = .bl c ∧ if c = true then Q (.bl true) H1 else tb σ H1 Q) (q η B S σ ρ H w s) fun d S1 v η1 B1 H1 n1 r1 => ?_
  cases d <;> first | trivial | skip
  rename_i k
  obtain rfl : v = .bl k := r1
  cases k with
  | true => exact fun Q k => ⟨true, rfl, k _ η1 B1 H1 n1.wd.refl rfl⟩
  | false =>
    have z := q2 η1 B1 S1 σ ρ H1 n1.wd (n1.sl s)
    show EvD η1 B1 (E σ) _ H1 (Fb ρ S1)
    revert z
    generalize Fb ρ S1 = rr
    intro z
    cases rr with
    | bad => trivial
    | ok d S' => exact fun Q q => ⟨false, rfl, z Q q⟩
    | exc C fs S' => exact fun Q q => ⟨false, rfl, z Q q⟩
theorem de_and (h : DE X E a ta Fa) (h2 : DE X E (.BoolOp .And (b :: rest) pos) tb Fb) : DE X E (.BoolOp .And (a :: b :: rest) pos) (tAndV ta tb) (andV Fa Fb) := by
  obtain ⟨p, q⟩ := h
  obtain ⟨p2, q2⟩ := h2
  refine ⟨pe_and p p2, fun η B S σ ρ H w s => ?_⟩
  refine Ev.bind (T := ta σ H) (T' := fun x H1 Q => ∃ c, x = .bl c ∧ if c = true then tb σ H1 Q else Q (.bl false) H1) (q η B S σ ρ H w s) fun d S1 v η1 B1 H1 n1 r1 => ?_
  cases d <;> first | trivial | skip
  rename_i k
  obtain rfl : v = .bl k := r1
  cases k with
  | false => exact fun Q k => ⟨false, rfl, k _ η1 B1 H1 n1.wd.refl rfl⟩
  | true =>
    have z := q2 η1 B1 S1 σ ρ H1 n1.wd (n1.sl s)
    show EvD η1 B1 (E σ) _ H1 (Fb ρ S1)
    revert z
    generalize Fb ρ S1 = rr
    intro z
    cases rr with
    | bad => trivial
    | ok d S' => exact fun Q q => ⟨true, rfl, z Q q⟩
    | exc C fs S' => exact fun Q q => ⟨true, rfl, z Q q⟩
@[simp] def notV (F : Env → Sto → Res D) : Env → Sto → Res D := fun ρ S => (F ρ S).bind fun d S1 => (lift (asB d) S1).bind fun b S2 => .ok (.bl (!b)) S2
theorem de_not (h : DE X E a ta Fa) : DE X E (.UnaryOp .Not a pos) (tNotV ta) (notV Fa) := by
  obtain ⟨p, q⟩ := h
  refine ⟨pe_not p, fun η B S σ ρ H w s => ?_⟩
  refine Ev.bind (T := ta σ H) (T' := fun (x : V) (H1 : Hp) (Q : VK) => ∃ c, x = V.bl c ∧ Q (V.bl (!c)) H1) (q η B S σ ρ H w s) fun d S1 v η1 B1 H1 n1 r1 => ?_
  cases d <;> first | trivial | exact fun Q k => ⟨_, r1, k _ η1 B1 H1 n1.wd.refl rfl⟩
@[simp] def ifV (T : Env → Sto → Res Bool) (F G : Env → Sto → Res D) : Env → Sto → Res D := fun ρ S => (T ρ S).bind fun b S1 => if b = true then F ρ S1 else G ρ S1
theorem de_if (hc : DT X E c ua Ta) (ha : DE X E a ta Fa) (hb : DE X E b tb Fb) : DE X E (.IfExp c a b pos) (tIf ua ta tb) (ifV Ta Fa Fb) := by
  obtain ⟨pc, qc⟩ := hc
  obtain ⟨pa, qa⟩ := ha
  obtain ⟨pb, qb⟩ := hb
  refine ⟨pe_ifExp pc pa pb, fun η B S σ ρ H w s => ?_⟩
  refine Ev.bind (T := ua σ H) (T' := fun c H1 Q => if c = true then ta σ H1 Q else tb σ H1 Q) (qc η B S σ ρ H w s) fun d S1 v η1 B1 H1 n1 r1 => ?_
  subst r1
  cases d with
  | true => exact qa η1 B1 S1 σ ρ H1 n1.wd (n1.sl s)
  | false => exact qb η1 B1 S1 σ ρ H1 n1.wd (n1.sl s)
/-! ### arguments, displays -/
variable {Fs : Env → Sto → Res (List D)} {tas : TA}
@[simp] def fNilA : Env → Sto → Res (List D) := fun _ S => .ok [] S
theorem da_nil : DA X E [] tNil fNilA := ⟨pa_nil, fun η B S σ ρ H w s Q k => k [] η B H w.refl rfl⟩
@[simp] def consA (F : Env → Sto → Res D) (G : Env → Sto → Res (List D)) : Env → Sto → Res (List D) := fun ρ S => (F ρ S).bind fun d S1 => (G ρ S1).bind fun ds S2 => .ok (d :: ds) S2
theorem da_cons (ha : DE X E e ta Fa) (hr : DA X E es tas Fs) (hs : starEach (e :: es) X.env = (false, eval e X.env) :: starEach es X.env := by rfl) : DA X E (e :: es) (tCons ta tas) (consA Fa Fs) := by
  obtain ⟨pa, qa⟩ := ha
  obtain ⟨pb, qb⟩ := hr
  refine ⟨pa_cons pa pb hs, fun η B S σ ρ H w s => ?_⟩
  refine Ev.bind (T := ta σ H) (T' := fun v H1 Q => tas σ H1 fun vs H2 => Q (v :: vs) H2) (qa η B S σ ρ H w s) fun d S1 v η1 B1 H1 n1 r1 => ?_
  refine Ev.bind (T := tas σ H1) (T' := fun vs H2 Q => Q (v :: vs) H2) (qb η1 B1 S1 σ ρ H1 n1.wd (n1.sl s)) fun ds S2 vs η2 B2 H2 n2 r2 => ?_
  exact Ev.now n2.wd ⟨v, vs, rfl, n2.rp r1, r2⟩
theorem size_ok {n : Nat} (h : n ≤ 100000) : n ≤ sizeLine := Nat.le_trans h (by decide)
@[simp] def mkLst (ds : List D) : Option D := if ds.length ≤ 100000 then some (.lst ds) else none
@[simp] def mkTup (ds : List D) : Option D := if ds.length ≤ 100000 then some (.tup ds) else none
theorem ev_newL {E : XK} {η B : List Addr} {S : Sto} {H : Hp} {ds : List D} {xs : List V} (w : Wd η B S H) (r : RpL η (cold B H) ds xs) : EvD η B E (fun Q => xs.length ≤ sizeLine ∧ ∀ p, H p = none → Q (.ref p) (upd H p (.lst xs))) H (lift (mkLst ds) S) := by
  unfold mkLst
  split
  · rename_i h
    exact fun Q k => ⟨by rw [r.length]; exact size_ok h, fun p hp => k _ _ _ _ (w.new hp) ⟨p, xs, rfl, w.cold_new hp, (w.new hp).rpL r⟩⟩
  · trivial
theorem ev_newT {E : XK} {η B : List Addr} {S : Sto} {H : Hp} {ds : List D} {xs : List V} (w : Wd η B S H) (r : RpL η (cold B H) ds xs) : EvD η B E (fun Q => xs.length ≤ sizeLine ∧ ∀ p, H p = none → Q (.ref p) (upd H p (.tup xs))) H (lift (mkTup ds) S) := by
  unfold mkTup
  split
  · rename_i h
    exact fun Q k => ⟨by rw [r.length]; exact size_ok h, fun p hp => k _ _ _ _ (w.new hp) ⟨p, xs, rfl, w.cold_new hp, (w.new hp).rpL r⟩⟩
  · trivial
@[simp] def dispL (F : Env → Sto → Res (List D)) : Env → Sto → Res D := fun ρ S => (F ρ S).bind fun ds S1 => lift (mkLst ds) S1
@[simp] def dispT (F : Env → Sto → Res (List D)) : Env → Sto → Res D := fun ρ S => (F ρ S).bind fun ds S1 => lift (mkTup ds) S1
theorem de_lst (h : DA X E es tas Fs) : DE X E (.List es pos) (tLst tas) (dispL Fs) := by
  obtain ⟨p, q⟩ := h
  exact ⟨pe_lst p, fun η B S σ ρ H w s => Ev.bind (T := tas σ H) (T' := fun (xs : List V) (H1 : Hp) (Q : VK) => xs.length ≤ sizeLine ∧ ∀ p, H1 p = none → Q (V.ref p) (upd H1 p (.lst xs))) (q η B S σ ρ H w s) fun ds S1 xs η1 B1 H1 n1 r1 => ev_newL n1.wd r1⟩
theorem de_tup {x1} (h : DA X E es tas Fs) : DE X E (.Tuple es x1 pos) (tTup tas) (dispT Fs) := by
  obtain ⟨p, q⟩ := h
  exact ⟨pe_tup p, fun η B S σ ρ H w s => Ev.bind (T := tas σ H) (T' := fun (xs : List V) (H1 : Hp) (Q : VK) => xs.length ≤ sizeLine ∧ ∀ p, H1 p = none → Q (V.ref p) (upd H1 p (.tup xs))) (q η B S σ ρ H w s) fun ds S1 xs η1 B1 H1 n1 r1 => ev_newT n1.wd r1⟩
/-! ### built-in functions by values -/
def VN (r : List V → Hp → VK → Prop) (f : Sto → List D → Option D) : Prop := ∀ (E : XK) (η B : List Addr) (S : Sto) (H : Hp) (ds : List D) (vs : List V), Wd η B S H → RpL η (cold B H) ds vs → EvD η B E (r vs H) H (lift (f S ds) S)
@[simp] def app (f : Sto → List D → Option D) (F : Env → Sto → Res (List D)) : Env → Sto → Res D := fun ρ S => (F ρ S).bind fun ds S1 => lift (f S1 ds) S1
theorem de_callB {x : Str} {id : String} {r : List V → Hp → VK → Prop} {f : Sto → List D → Option D} (hr : VN r f) (hc : CallR X (.builtin id) r) (hm : X.mg x = none) (hv : bootBuiltins x = some (.builtin id)) (ha : DA X E (e :: es) tas Fs)
    (hg : Gl X x := by rfl) (hn : x ≠ "__name__" := by decide) (hdb : (x == ("__debug__" : Str)) = false := by decide) (he : starEach (e :: es) X.env = (false, eval e X.env) :: starEach es X.env := by rfl) (hpl : (backTo pos (starEach es X.env)).any (·.1) = false := by rfl) :
    DE X E (.Call (.Name x p) (e :: es) [] pos) (tCB r tas) (app f Fs) := by
  obtain ⟨pa, q⟩ := ha
  exact ⟨pe_callB hc hg hm hv pa hn hdb he hpl, fun η B S σ ρ H w s => Ev.bind (T := tas σ H) (T' := fun vs H1 Q => r vs H1 Q) (q η B S σ ρ H w s) fun ds S1 xs η1 B1 H1 n1 r1 => hr (E σ) η1 B1 S1 H1 ds xs n1.wd r1⟩
theorem de_callTy {x : Str} {T : String} {r : List V → Hp → VK → Prop} {f : Sto → List D → Option D} (hr : VN r f) (hc : CallR X (.type T) r) (hm : X.mg x = none) (hv : bootBuiltins x = some (.type T)) (ha : DA X E (e :: es) tas Fs)
    (hg : Gl X x := by rfl) (hn : x ≠ "__name__" := by decide) (hdb : (x == ("__debug__" : Str)) = false := by decide) (he : starEach (e :: es) X.env = (false, eval e X.env) :: starEach es X.env := by rfl) (hpl : (backTo pos (starEach es X.env)).any (·.1) = false := by rfl) :
    DE X E (.Call (.Name x p) (e :: es) [] pos) (tCB r tas) (app f Fs) := by
  obtain ⟨pa, q⟩ := ha
  exact ⟨pe_callTy hc hg hm hv pa hn hdb he hpl, fun η B S σ ρ H w s => Ev.bind (T := tas σ H) (T' := fun vs H1 Q => r vs H1 Q) (q η B S σ ρ H w s) fun ds S1 xs η1 B1 H1 n1 r1 => hr (E σ) η1 B1 S1 H1 ds xs n1.wd r1⟩
end
end DL
set_option Elab.async false
set_option linter.all false
set_option maxRecDepth 100000
set_option maxHeartbeats 4000000
set_option autoImplicit false
namespace DL
open PySem PySem.Spec PyProof.Rows L2
/-! ### slots wiped -/
@[simp] def wipeE (ρ : Env) : List Nat → Env
  | [] => ρ
  | v :: vs => (wipeE ρ vs).set v none
theorem wipeE_len (ρ : Env) : ∀ vs, (wipeE ρ vs).length = ρ.length
  | [] => rfl
  | v :: vs => by
    show ((wipeE ρ vs).set v none).length = _
    rw [List.length_set, wipeE_len ρ vs]
theorem Sl.wipe {η : List Addr} {Hc : Hp} {σ : L2.St} {ρ : Env} (s : Sl η Hc σ ρ) : ∀ vs, Sl η Hc (L2.wipe σ vs) (wipeE ρ vs)
  | [] => s
  | v :: vs => by
    have ih := Sl.wipe s vs
    refine ⟨?_, fun i d h => ?_⟩
    · show ((L2.wipe σ vs).set v none).length = ((wipeE ρ vs).set v none).length
      rw [List.length_set, List.length_set, ih.1]
    · have h' : ((wipeE ρ vs).set v none)[i]? = some (some d) := h
      by_cases e : v = i
      · subst e
        rw [List.getElem?_set] at h'
        simp at h'
      · rw [List.getElem?_set_ne e] at h'
        obtain ⟨u, e1, r⟩ := ih.2 i d h'
        exact ⟨u, by show ((L2.wipe σ vs).set v none)[i]? = _; rw [List.getElem?_set_ne e]; exact e1, r⟩
theorem wipe_set {i : Nat} {x : Option V} : ∀ (vs : List Nat) (σ : L2.St), L2.wipe (σ.set i x) vs = if i ∈ vs then L2.wipe σ vs else (L2.wipe σ vs).set i x
  | [], σ => by simp [L2.wipe]
  | v :: vs, σ => by
    show (L2.wipe (σ.set i x) vs).set v none = if i ∈ v :: vs then (L2.wipe σ vs).set v none else ((L2.wipe σ vs).set v none).set i x
    rw [wipe_set vs σ]
    by_cases h : i ∈ vs
    · rw [if_pos h, if_pos (List.mem_cons_of_mem _ h)]
    · rw [if_neg h]
      by_cases e : i = v
      · subst e
        rw [if_pos List.mem_cons_self, List.set_set]
      · rw [if_neg (by simp [e, h]), List.set_comm _ _ e]
theorem wipe_in {i : Nat} {x : Option V} {vs : List Nat} {σ : L2.St} (h : i ∈ vs) : L2.wipe (σ.set i x) vs = L2.wipe σ vs := by rw [wipe_set, if_pos h]
/-! ### targets -/
def SoG (g : TG) (is : List Nat) (gF : D → Env → Option Env) : Prop := ∀ η B S H d v σ ρ ρ', Wd η B S H → Sl η (cold B H) σ ρ → Rp η (cold B H) d v → gF d ρ = some ρ' →
  ∀ Q : L2.St → Hp → Prop, (∀ σ', Sl η (cold B H) σ' ρ' → (∀ vs : List Nat, (∀ i ∈ is, i ∈ vs) → L2.wipe σ' vs = L2.wipe σ vs) → Q σ' H) → g v σ H Q
@[simp] def gfName (i : Nat) : D → Env → Option Env := fun d ρ => some (ρ.set i (some d))
theorem sog_name (i : Nat) : SoG (gName i) [i] (gfName i) := fun η B S H d v σ ρ ρ' w s r e Q k => by
  cases e
  exact k _ (s.set r) fun vs h => wipe_in (h i List.mem_cons_self)
@[simp] def gfPair (i j : Nat) : D → Env → Option Env := fun d ρ => match d with
  | .tup [a, b] => some ((ρ.set i (some a)).set j (some b))
  | _ => none
theorem sog_pair (K : PySem.W.Frag) (i j : Nat) : SoG (gTup K 2 (gCons (gName i) (gCons (gName j) gNil))) [i, j] (gfPair i j) := fun η B S H d v σ ρ ρ' w s r e Q k => by
  unfold gfPair at e
  split at e
  · rename_i a b
    cases e
    obtain ⟨p, xs, rfl, hp, va, r1, rfl, ra, vb, r2, rfl, rb, rfl⟩ := r
    refine ⟨p, _, rfl, .inl (.inl (cold_of hp).1), rfl, va, _, rfl, vb, _, rfl, rfl, k _ ((s.set ra).set rb) fun vs h => ?_⟩
    rw [wipe_in (h j (by simp)), wipe_in (h i (by simp))]
  · cases e
/-! ### what is walked -/
def RI (η : List Addr) (Hc : Hp) (items : List D) (J : It) : Prop := ∃ (G : Hp → Prop) (Y : Nat → Hp → V → Hp → Prop), Walk J items.length G Y ∧ (∀ η' B S H', Up η η' → Wd η' B S H' → Same Hc (cold B H') → G H') ∧
  ∀ η' B S H' i x H'', Up η η' → Wd η' B S H' → Same Hc (cold B H') → i < items.length → Y i H' x H'' → Nx η' B η' B S H' H'' ∧ ∃ d, items[i]? = some d ∧ Rp η' (cold B H'') d x
def SoI (E : EK) (wi : TI) (F : Env → Sto → Res (List D)) : Prop := ∀ η B S σ ρ H, Wd η B S H → Sl η (cold B H) σ ρ → Ev RI η B (E σ) (wi σ H) H (F ρ S)
def DI (X : Cx) (E : EK) (tg iter : Expr) (wi : TI) (F : Env → Sto → Res (List D)) : Prop := PI X tg iter wi ∧ SoI E wi F
@[simp] def asL : D → Option (List D)
  | .lst l => some l
  | _ => none
@[simp] def asT : D → Option (List D)
  | .tup l => some l
  | _ => none
@[simp] def asC : D → Option (List D)
  | .str s => some (s.cps.toList.map fun c => .str ⟨#[c]⟩)
  | _ => none
@[simp] def itF (f : D → Option (List D)) (F : Env → Sto → Res D) : Env → Sto → Res (List D) := fun ρ S => (F ρ S).bind fun d S1 => lift (f d) S1
section
variable {X : Cx} {E : EK} {tg e a b : Expr} {es : List Expr} {te : TE} {ta : TA} {F : Env → Sto → Res D} {Fs : Env → Sto → Res (List D)} {pos p : Pos}
theorem di_list {K : PySem.W.Frag} (h : DE X E e te F) (hK : X.K = K := by rfl) : DI X E tg e (iList K te) (itF asL F) := by
  subst hK
  obtain ⟨pe, so⟩ := h
  refine ⟨pi_list pe, fun η B S σ ρ H w s => Ev.bind (T := te σ H) (T' := fun x H1 R => ∃ a, x = V.ref a ∧ (∃ xs, SqL X.K H1 a xs) ∧ R (Itl X.K a) H1) (so η B S σ ρ H w s) fun d S1 v η1 B1 H1 n1 r1 => ?_⟩
  cases d <;> first | trivial | skip
  rename_i ds
  obtain ⟨q, xs, rfl, hq, rl⟩ := r1
  refine fun Q k => ⟨q, rfl, ⟨xs, .inl (.inl (cold_of hq).1)⟩, k _ η1 B1 H1 n1.wd.refl ⟨fun H => SqL X.K H q xs, _, by rw [← rl.length]; exact walk_list (xs := xs), fun η' B' S' H' u' w' sm => .inl (.inl (cold_of (sm _ _ hq)).1), fun η' B' S' H' i x H'' u' w' sm hi y => ?_⟩⟩
  obtain ⟨rfl, hx⟩ := y
  obtain ⟨d', e1, r'⟩ := rl.get hx
  exact ⟨w'.refl, d', e1, Rp.le (.of sm) u' d' r'⟩
theorem di_tup {K : PySem.W.Frag} (h : DE X E e te F) (hK : X.K = K := by rfl) : DI X E tg e (iTup K te) (itF asT F) := by
  subst hK
  obtain ⟨pe, so⟩ := h
  refine ⟨pi_tup pe, fun η B S σ ρ H w s => Ev.bind (T := te σ H) (T' := fun x H1 R => ∃ a, x = V.ref a ∧ (∃ xs, SqT X.K H1 a xs) ∧ R (Itt X.K a) H1) (so η B S σ ρ H w s) fun d S1 v η1 B1 H1 n1 r1 => ?_⟩
  cases d <;> first | trivial | skip
  rename_i ds
  obtain ⟨q, xs, rfl, hq, rl⟩ := r1
  refine fun Q k => ⟨q, rfl, ⟨xs, .inl (.inl (cold_of hq).1)⟩, k _ η1 B1 H1 n1.wd.refl ⟨fun H => SqT X.K H q xs, _, by rw [← rl.length]; exact walk_tup (xs := xs), fun η' B' S' H' u' w' sm => .inl (.inl (cold_of (sm _ _ hq)).1), fun η' B' S' H' i x H'' u' w' sm hi y => ?_⟩⟩
  obtain ⟨rfl, hx⟩ := y
  obtain ⟨d', e1, r'⟩ := rl.get hx
  exact ⟨w'.refl, d', e1, Rp.le (.of sm) u' d' r'⟩
theorem di_str (h : DE X E e te F) : DI X E tg e (iStr te) (itF asC F) := by
  obtain ⟨pe, so⟩ := h
  refine ⟨pi_str pe, fun η B S σ ρ H w s => Ev.bind (T := te σ H) (T' := fun v H1 R => ∃ x, v = V.str x ∧ R (Its x) H1) (so η B S σ ρ H w s) fun d S1 v η1 B1 H1 n1 r1 => ?_⟩
  cases d <;> first | trivial | skip
  rename_i z
  obtain rfl : v = .str z := r1
  refine fun Q k => ⟨z, rfl, k _ η1 B1 H1 n1.wd.refl ⟨_, _, by rw [List.length_map, Array.length_toList]; exact walk_str (z := z), fun η' B' S' H' u' w' sm => trivial, fun η' B' S' H' i x H'' u' w' sm hi y => ?_⟩⟩
  obtain ⟨rfl, c, hc, rfl⟩ := y
  refine ⟨w'.refl, .str ⟨#[c]⟩, ?_, rfl⟩
  rw [List.getElem?_map, Array.getElem?_toList, hc]
  rfl
def rngF (lo hi : Int) : List D := (List.range (hi - lo).toNat).map fun k => .int (lo + (k : Nat))
@[simp] def asR1 : List D → Option (List D)
  | [.int n] => if -100000 < n ∧ n < 100000 then some (rngF 0 n) else none
  | _ => none
@[simp] def asR2 : List D → Option (List D)
  | [.int m, .int n] => if -100000 < m ∧ m < 100000 ∧ -100000 < n ∧ n < 100000 then some (rngF m n) else none
  | _ => none
@[simp] def itA (f : List D → Option (List D)) (F : Env → Sto → Res (List D)) : Env → Sto → Res (List D) := fun ρ S => (F ρ S).bind fun d S1 => lift (f d) S1
theorem ri_rng (η : List Addr) (Hc : Hp) (lo hi : Int) : RI η Hc (rngF lo hi) (Itr lo (hi - lo).toNat) := by
  refine ⟨_, _, by unfold rngF; rw [List.length_map, List.length_range]; exact walk_range (lo := lo), fun _ _ _ _ _ _ _ => trivial, fun η' B S H' i x H'' u' w sm hi y => ?_⟩
  obtain ⟨rfl, rfl⟩ := y
  refine ⟨w.refl, .int (lo + (i : Nat)), ?_, rfl⟩
  unfold rngF at hi ⊢
  rw [List.length_map, List.length_range] at hi
  rw [List.getElem?_map, List.getElem?_range hi]
  rfl
theorem di_range1 (hm : X.mg "range" = none) (h : DA X E [a] ta Fs) (hg : Gl X "range" := by rfl) (hs : starEach [a] X.env = [(false, eval a X.env)] := by rfl) : DI X E tg (.Call (.Name "range" p) [a] [] pos) (iRng1 ta) (itA asR1 Fs) := by
  obtain ⟨pe, so⟩ := h
  refine ⟨pi_range1 hg hm pe hs, fun η B S σ ρ H w s => Ev.bind (T := ta σ H) (T' := fun vs H1 R => ∃ j : Int, vs = [V.int j] ∧ -(2 ^ 62) ≤ j ∧ j < 2 ^ 62 ∧ R (Itr 0 j.toNat) H1) (so η B S σ ρ H w s) fun ds S1 vs η1 B1 H1 n1 r1 => ?_⟩
  show Ev RI η1 B1 (E σ) _ H1 (lift (asR1 ds) S1)
  unfold asR1
  split
  · rename_i n
    obtain ⟨v, r2, rfl, rfl, rfl⟩ := r1
    split
    · rename_i hn
      have hz : Itr 0 n.toNat = Itr 0 (n - 0).toNat := by rw [Int.sub_zero]
      refine fun Q k => ⟨n, rfl, by omega, by omega, ?_⟩
      rw [hz]
      exact k _ η1 B1 H1 n1.wd.refl (ri_rng η1 _ 0 n)
    · trivial
  · trivial
theorem di_range2 (hm : X.mg "range" = none) (h : DA X E [a, b] ta Fs) (hg : Gl X "range" := by rfl) (hs : starEach [a, b] X.env = [(false, eval a X.env), (false, eval b X.env)] := by rfl) (hs2 : starEach [b] X.env = [(false, eval b X.env)] := by rfl) :
    DI X E tg (.Call (.Name "range" p) [a, b] [] pos) (iRng2 ta) (itA asR2 Fs) := by
  obtain ⟨pe, so⟩ := h
  refine ⟨pi_range2 hg hm pe hs hs2, fun η B S σ ρ H w s => Ev.bind (T := ta σ H) (T' := fun vs H1 R => ∃ i j : Int, vs = [V.int i, V.int j] ∧ (-(2 ^ 62) ≤ i ∧ i < 2 ^ 62 ∧ -(2 ^ 62) ≤ j ∧ j < 2 ^ 62) ∧ R (Itr i (j - i).toNat) H1) (so η B S σ ρ H w s) fun ds S1 vs η1 B1 H1 n1 r1 => ?_⟩
  show Ev RI η1 B1 (E σ) _ H1 (lift (asR2 ds) S1)
  unfold asR2
  split
  · rename_i m n
    obtain ⟨v, r2, rfl, rfl, v', r3, rfl, rfl, rfl⟩ := r1
    split
    · rename_i hn
      exact fun Q k => ⟨m, n, rfl, by omega, k _ η1 B1 H1 n1.wd.refl (ri_rng η1 _ m n)⟩
    · trivial
  · trivial
end
end DL
set_option Elab.async false
set_option linter.all false
set_option maxRecDepth 100000
set_option maxHeartbeats 4000000
set_option autoImplicit false
namespace DL
open PySem PySem.Spec PyProof.Rows L2
/-! ### a hidden address -/
section
variable {η B η' B' : List Addr} {S : Sto} {H H' : Hp} {p : Addr} {o : HO}
def un (p : Addr) (B : List Addr) : List Addr := B.filter fun b => decide (b ≠ p)
theorem mem_un {a : Addr} : a ∈ un p B ↔ a ∈ B ∧ a ≠ p := by
  unfold un
  rw [List.mem_filter, decide_eq_true_eq]
theorem cold_put (h : p ∈ B) (o : HO) : cold B (upd H p o) = cold B H := by
  funext a
  unfold cold
  by_cases h' : a ∈ B
  · rw [if_pos h', if_pos h']
  · rw [if_neg h', if_neg h', upd_ne fun e => h' (by rw [e]; exact h)]
theorem Wd.hide (w : Wd η B S H) (hp : H p = none) : Nx η B η (p :: B) S H (upd H p o) := by
  have hc : Same (cold B H) (cold (p :: B) (upd H p o)) := fun a u e => by
    obtain ⟨e1, e2⟩ := cold_of e
    have ne : a ≠ p := ne_of_none e1 hp
    exact cold_in (by rw [upd_ne ne]; exact e1) (by simp [ne, e2])
  refine ⟨⟨fun a h => List.mem_cons_of_mem _ (w.sub a h), fun b hb => ?_, w.nd, w.len, fun i a u hi hu => ?_⟩, .refl η, w.sub, fun _ h => .inl h, fun b h => ?_, fun _ h => List.mem_cons_of_mem _ h, fun a u _ e => same_new hp a u e⟩
  · by_cases e : b = p
    · rw [e, upd_same]; exact fun z => nomatch z
    · rw [upd_ne e]
      exact w.live b (by simpa [e] using hb)
  · exact (w.hot i a u hi hu).mono hc fun x q => same_new hp _ _ q
  · rcases List.mem_cons.mp h with e | e
    · exact .inr (by rw [e]; exact hp)
    · exact .inl e
theorem up_snoc (η : List Addr) (p : Addr) : Up η (η ++ [p]) := fun i a h => by
  rw [List.getElem?_append_left (List.getElem?_eq_some_iff.mp h).1]
  exact h
theorem RpL.up {η η' : List Addr} {Hc : Hp} {d : List D} {v : List V} (r : RpL η Hc d v) (u : Up η η') : RpL η' Hc d v := RpL.le (.of fun _ _ e => e) u d r
theorem Rp.up {η η' : List Addr} {Hc : Hp} {d : D} {v : V} (r : Rp η Hc d v) (u : Up η η') : Rp η' Hc d v := Rp.le (.of fun _ _ e => e) u d r
theorem RpK.up {η η' : List Addr} {Hc : Hp} {d : List (Key × D)} {v : List (Key × V)} (r : RpK η Hc d v) (u : Up η η') : RpK η' Hc d v := RpK.le (.of fun _ _ e => e) u d r
theorem RpF.up {η η' : List Addr} {Hc : Hp} {d : List (Str × D)} {v : List (Str × V)} (r : RpF η Hc d v) (u : Up η η') : RpF η' Hc d v := RpF.le (.of fun _ _ e => e) u d r
/-- a new hot object -/
theorem Wd.alloc (w : Wd η B S H) (hp : H p = none) {u : HotO} (r : HotRel (η ++ [p]) (cold (p :: B) (upd H p o)) (upd H p o) p u) : Nx η B (η ++ [p]) (p :: B) (S ++ [u]) H (upd H p o) := by
  have n := w.hide (o := o) hp
  have hpη : p ∉ η := fun z => w.live p (w.sub p z) hp
  refine ⟨⟨fun a h => ?_, n.wd.live, ?_, ?_, fun i a v hi hv => ?_⟩, up_snoc η p, w.sub, fun a h => ?_, n.fr, n.sb, n.kp⟩
  · rcases List.mem_append.mp h with h | h
    · exact n.wd.sub a h
    · rw [List.mem_singleton.mp h]; exact List.mem_cons_self
  · exact List.nodup_append.mpr ⟨w.nd, by simp, fun a ha b hb e => hpη (by rw [List.mem_singleton.mp hb] at e; exact e ▸ ha)⟩
  · rw [List.length_append, List.length_append, w.len]; rfl
  · by_cases hl : i < η.length
    · rw [List.getElem?_append_left hl] at hi
      rw [List.getElem?_append_left (by rw [← w.len]; exact hl)] at hv
      exact (n.wd.hot i a v hi hv).le (.of fun _ _ e => e) (up_snoc η p) fun _ q => q
    · rw [List.getElem?_append_right (by omega)] at hi
      rw [List.getElem?_append_right (by rw [← w.len]; omega), ← w.len] at hv
      have h0 : i - η.length = 0 := by
        have := (List.getElem?_eq_some_iff.mp hi).1
        simp at this
        omega
      rw [h0] at hi hv
      cases hi
      cases hv
      exact r
  · rcases List.mem_append.mp h with h | h
    · exact .inl h
    · rw [List.mem_singleton.mp h]; exact .inr hp
theorem Wd.at_new (w : Wd η B S H) : (η ++ [p])[S.length]? = some p := by
  rw [← w.len]
  simp
/-- the hidden object is changed -/
theorem Wd.put (w : Wd η B S H) (hb : p ∈ B) (hp : p ∉ η) : Wd η B S (upd H p o) := by
  refine ⟨w.sub, fun b hb => ?_, w.nd, w.len, fun i a u hi hu => ?_⟩
  · by_cases e : b = p
    · rw [e, upd_same]; exact fun z => nomatch z
    · rw [upd_ne e]
      exact w.live b hb
  · rw [cold_put hb]
    refine (w.hot i a u hi hu).mono (fun _ _ e => e) fun x q => ?_
    rw [upd_ne fun e => hp (by rw [← e]; exact List.mem_of_getElem? hi)]
    exact q
theorem Nx.put (n : Nx η B η' B' S H H') (h0 : H p = none) (hb : p ∈ B') (hp : p ∉ η') : Nx η B η' B' S H (upd H' p o) :=
  ⟨n.wd.put hb hp, n.up, n.s0, n.nw, n.fr, n.sb, fun a u na e => by rw [upd_ne (ne_of_none e h0)]; exact n.kp a u na e⟩
theorem Wd.unhide (w : Wd η B S H) (hp : p ∉ η) : Wd η (un p B) S H :=
  ⟨fun a h => mem_un.mpr ⟨w.sub a h, fun e => hp (e ▸ h)⟩, fun b hb => w.live b (mem_un.mp hb).1, w.nd, w.len, fun i a u hi hu => (w.hot i a u hi hu).mono (cold_sub fun a h => (mem_un.mp h).1) fun _ q => q⟩
theorem Nx.unhide (n : Nx η B η' B' S H H') (h0 : H p = none) (hB : p ∉ B) (hp : p ∉ η') : Nx η B η' (un p B') S H H' :=
  ⟨n.wd.unhide hp, n.up, n.s0, n.nw, fun b h => n.fr b (mem_un.mp h).1, fun b h => mem_un.mpr ⟨n.sb b h, fun e => hB (e ▸ h)⟩, n.kp⟩
theorem Nx.far (n : Nx η B η' B' S H H') (h : p ∉ η) (e : H p ≠ none) : p ∉ η' := fun z => by
  rcases n.nw p z with q | q
  · exact h q
  · exact e q
end
/-! ### comprehensions -/
abbrev EN : EK := fun _ => E0
theorem wipe_idem_aux : ∀ (vs us : List Nat) (σ : L2.St), (∀ v ∈ vs, v ∈ us) → L2.wipe (L2.wipe σ vs) us = L2.wipe σ us
  | [], _, _, _ => rfl
  | v :: vs, us, σ, h => by
    show L2.wipe ((L2.wipe σ vs).set v none) us = _
    rw [wipe_in (h v List.mem_cons_self)]
    exact wipe_idem_aux vs us σ fun u hu => h u (List.mem_cons_of_mem _ hu)
theorem wipe_idem (vs : List Nat) (σ : L2.St) : L2.wipe (L2.wipe σ vs) vs = L2.wipe σ vs := wipe_idem_aux vs vs σ fun _ h => h
def lcF (gF : D → Env → Option Env) (T : Env → Sto → Res Bool) (F : Env → Sto → Res D) (ρ : Env) : List D → Sto → List D → Res (List D)
  | [], S, acc => .ok acc S
  | d :: ds, S, acc => match gF d ρ with
    | none => .bad
    | some ρ1 => match T ρ1 S with
      | .ok true S1 => (match F ρ1 S1 with
        | .ok y S2 => lcF gF T F ρ ds S2 (acc ++ [y])
        | _ => .bad)
      | .ok false S1 => lcF gF T F ρ ds S1 acc
      | _ => .bad
def lcomp (vs : List Nat) (Fi : Env → Sto → Res (List D)) (gF : D → Env → Option Env) (T : Env → Sto → Res Bool) (F : Env → Sto → Res D) : Env → Sto → Res D := fun ρ S =>
  (Fi ρ S).bind fun items S1 => if items.length ≤ 100000 then (lcF gF T F (wipeE ρ vs) items S1 []).bind (fun ds S2 => .ok (.lst ds) S2) else .bad
theorem lc_loop {E : XK} {J : It} {g : TG} {is vs : List Nat} {gF : D → Env → Option Env} {tt : TT} {te : TE} {T : Env → Sto → Res Bool} {F : Env → Sto → Res D} (hg : SoG g is gF) (his : ∀ i ∈ is, i ∈ vs) (ht : SoT EN tt T) (he : SoE EN te F)
    {η B : List Addr} {S1 : Sto} {σ : L2.St} {ρ : Env} {H1 : Hp} {items : List D} (w1 : Wd η B S1 H1) (s1 : Sl η (cold B H1) σ ρ) (ri : RI η (cold B H1) items J) (hn : items.length ≤ 100000) :
    EvD η B E (fun Q => ∀ D, H1 D = none → ∃ W : Nat → Nat → Hp → Prop, (∃ m, W 0 m (upd H1 D (.lst []))) ∧ ∀ i m H, W i m H →
      (J.stop i H ∧ Q (V.ref D) H) ∨ (J.go i H ∧ ∃ Nx : Hp → Prop, (∀ H', Nx H' → ∃ m', m' < m ∧ W (i + 1) m' H') ∧ ∀ x H', J.yld i H x H' → g x (L2.wipe σ vs) H' fun σ2 H2 => L2.wipe σ2 vs = L2.wipe σ vs ∧ tt σ2 H2 fun b H3 =>
        if b = true then te σ2 H3 fun y H4 => ∃ acc, H4 D = some (.lst acc) ∧ acc.length < sizeLine ∧ Nx (upd H4 D (.lst (acc ++ [y]))) else Nx H3)) H1
      ((lcF gF T F (wipeE ρ vs) items S1 []).bind (fun ds S2 => .ok (.lst ds) S2)) := by
  obtain ⟨G, Y, wk, hG, hY⟩ := ri
  cases hR : lcF gF T F (wipeE ρ vs) items S1 [] with
  | bad => trivial
  | exc C fs S' =>
    exfalso
    have none_exc : ∀ (ds : List D) (S : Sto) (acc : List D) (C : Addr) (fs : List (Str × D)) (S' : Sto), lcF gF T F (wipeE ρ vs) ds S acc ≠ .exc C fs S' := by
      intro ds
      induction ds with
      | nil => intro S acc C fs S' z; cases z
      | cons d ds ih =>
        intro S acc C fs S' z
        unfold lcF at z
        split at z
        · cases z
        · split at z
          · split at z
            · exact ih _ _ _ _ _ z
            · cases z
          · exact ih _ _ _ _ _ z
          · cases z
    exact none_exc _ _ _ _ _ _ hR
  | ok res Sf =>
    intro Q k D hD
    have nDη : D ∉ η := fun z => w1.live D (w1.sub D z) hD
    have nDB : D ∉ B := w1.fresh hD
    refine lc_it wk (fun i H' => ∃ (ηi Bi : List Addr) (Si : Sto) (acc : List DL.D) (xs : List V), lcF gF T F (wipeE ρ vs) (items.drop i) Si acc = .ok res Sf ∧ acc.length ≤ i ∧ Nx η B ηi Bi Si H1 H' ∧ D ∈ Bi ∧ D ∉ ηi ∧ H' D = some (.lst xs) ∧ RpL ηi (cold Bi H') acc xs) ?_ ?_ ?_ ?_
    · exact ⟨η, D :: B, S1, [], [], hR, Nat.le_refl _, w1.hide hD, List.mem_cons_self, nDη, upd_same, rfl⟩
    · rintro i H' _ ⟨ηi, Bi, Si, acc, xs, _, _, n', _, _, hx, _⟩
      exact hG ηi Bi Si H' n'.up n'.wd n'.same
    · rintro i x H' H'' hi ⟨ηi, Bi, Si, acc, xs, hr, hl, n', dB, dη, hx, rx⟩ y
      obtain ⟨n2, d, hd, rd⟩ := hY ηi Bi Si H' i x H'' n'.up n'.wd n'.same hi y
      have hdrop : items.drop i = d :: items.drop (i + 1) := by
        rw [List.drop_eq_getElem_cons hi]
        congr 1
        rw [List.getElem?_eq_getElem hi] at hd
        exact Option.some.inj hd
      rw [hdrop] at hr
      unfold lcF at hr
      cases hg1 : gF d (wipeE ρ vs) with
      | none => rw [hg1] at hr; cases hr
      | some ρ1 =>
        rw [hg1] at hr
        dsimp only at hr
        have sw : Sl ηi (cold Bi H'') (L2.wipe σ vs) (wipeE ρ vs) := n2.sl (n'.sl (s1.wipe vs))
        refine hg ηi Bi Si H'' d x _ _ ρ1 n2.wd sw rd hg1 _ fun σ2 s2 hw => ⟨(hw vs his).trans (wipe_idem vs σ), ?_⟩
        have hD2 : H'' D = some (.lst xs) := n2.kp D _ dη hx
        cases ht1 : T ρ1 Si with
        | bad => rw [ht1] at hr; cases hr
        | exc C fs S' => rw [ht1] at hr; cases hr
        | ok b S2 =>
          rw [ht1] at hr
          have z := ht ηi Bi Si σ2 ρ1 H'' n2.wd s2
          rw [ht1] at z
          refine z _ fun b' η3 B3 H3 n3 eb => ?_
          subst eb
          have hD3 : H3 D = some (.lst xs) := n3.kp D _ dη hD2
          have dη3 : D ∉ η3 := n3.far dη (by rw [hD2]; exact fun z => nomatch z)
          cases b with
          | false =>
            refine iteF ⟨η3, B3, S2, acc, xs, hr, by omega, (n'.trans n2).trans n3, n3.sb D dB, dη3, hD3, n3.rpL (n2.rpL rx)⟩
          | true =>
            dsimp only at hr
            refine iteT ?_
            cases hf : F ρ1 S2 with
            | bad => rw [hf] at hr; cases hr
            | exc C fs S' => rw [hf] at hr; cases hr
            | ok yd S4 =>
              rw [hf] at hr
              have z := he η3 B3 S2 σ2 ρ1 H3 n3.wd (n3.sl s2)
              rw [hf] at z
              refine z _ fun v η4 B4 H4 n4 r4 => ?_
              have dη4 : D ∉ η4 := n4.far dη3 (by rw [hD3]; exact fun z => nomatch z)
              have dB4 : D ∈ B4 := n4.sb D (n3.sb D dB)
              have rx4 : RpL η4 (cold B4 H4) acc xs := n4.rpL (n3.rpL (n2.rpL rx))
              refine ⟨xs, n4.kp D _ dη3 hD3, ?_, η4, B4, S4, acc ++ [yd], xs ++ [v], hr, ?_, (((n'.trans n2).trans n3).trans n4).put hD dB4 dη4, dB4, dη4, upd_same, ?_⟩
              · rw [rx.length]
                exact Nat.lt_of_lt_of_le (Nat.lt_of_le_of_lt hl hi) (size_ok hn)
              · rw [List.length_append]
                exact Nat.succ_le_succ hl
              · rw [cold_put dB4]
                exact rx4.snoc r4
    · rintro H' ⟨ηi, Bi, Si, acc, xs, hr, hl, n', dB, dη, hx, rx⟩
      rw [List.drop_length] at hr
      cases hr
      exact k _ _ _ _ (n'.unhide hD nDB dη) ⟨D, xs, rfl, cold_in hx (fun z => (mem_un.mp z).2 rfl), RpL.le (.of (cold_sub fun a h => (mem_un.mp h).1)) (.refl _) _ rx⟩
section
variable {X : Cx} {E : EK} {tg iter elt : Expr} {ifs : List Expr} {scope : Scope} {own : List (Str × Nat)} {pos : Pos} {wi : TI} {g : TG} {tt : TT} {te : TE} {Fi : Env → Sto → Res (List D)} {gF : D → Env → Option Env} {T : Env → Sto → Res Bool} {F : Env → Sto → Res D} {is : List Nat}
theorem so_lc {vs : List Nat} (hi : SoI E wi Fi) (hg : SoG g is gF) (his : ∀ i ∈ is, i ∈ vs) (ht : SoT EN tt T) (he : SoE EN te F) : SoE E (tLc wi g tt te vs) (lcomp vs Fi gF T F) := fun η B S σ ρ H w s => by
  refine Ev.bind (T := wi σ H) (T' := fun (J : It) (H1 : Hp) (Q : VK) => ∀ D, H1 D = none → ∃ W : Nat → Nat → Hp → Prop, (∃ m, W 0 m (upd H1 D (.lst []))) ∧ ∀ i m H, W i m H →
      (J.stop i H ∧ Q (V.ref D) H) ∨ (J.go i H ∧ ∃ Nx : Hp → Prop, (∀ H', Nx H' → ∃ m', m' < m ∧ W (i + 1) m' H') ∧ ∀ x H', J.yld i H x H' → g x (L2.wipe σ vs) H' fun σ2 H2 => L2.wipe σ2 vs = L2.wipe σ vs ∧ tt σ2 H2 fun b H3 =>
        if b = true then te σ2 H3 fun y H4 => ∃ acc, H4 D = some (.lst acc) ∧ acc.length < sizeLine ∧ Nx (upd H4 D (.lst (acc ++ [y]))) else Nx H3)) (hi η B S σ ρ H w s) fun items S1 J η1 B1 H1 n1 r1 => ?_
  by_cases hn : items.length ≤ 100000
  · rw [if_pos hn]
    exact lc_loop hg his ht he n1.wd (n1.sl s) r1 hn
  · rw [if_neg hn]
    trivial
@[simp] def fYes : Env → Sto → Res Bool := fun _ S => .ok true S
theorem sot_yes : SoT EN tYes fYes := fun η B S σ ρ H w s Q k => k true η B H w.refl rfl
def DTs (X : Cx) (E : EK) (es : List Expr) (t : TT) (F : Env → Sto → Res Bool) : Prop := PTs X es t ∧ SoT E t F
theorem dts_nil : DTs X EN [] tYes fYes := ⟨pts_nil, sot_yes⟩
theorem dts_one {c : Expr} (h : DT X E c tt T) : DTs X E [c] tt T := ⟨pts_one h.1, h.2⟩
/-- the parts of a comprehension's block -/
structure Blk (X : Cx) (scope : Scope) (own : List (Str × Nat)) (tg : Expr) (ifs : List Expr) (elt : Expr) (g : TG) (tt : TT) (te : TE) (gF : D → Env → Option Env) (T : Env → Sto → Res Bool) (F : Env → Sto → Res D) : Prop where
  ok : BlkOk X.N X.env.scope scope own
  pg : ∀ (s : Shared) (H : Hp) (C : Addr) (cl : List (Str × Addr)) (fp : List Addr), PG (X.blk s H scope (compEnvC scope cl C X.env) fp) tg g
  pt : ∀ (s : Shared) (H : Hp) (C : Addr) (cl : List (Str × Addr)) (fp : List Addr), DTs (X.blk s H scope (compEnvC scope cl C X.env) fp) EN ifs tt T
  pe : ∀ (s : Shared) (H : Hp) (C : Addr) (cl : List (Str × Addr)) (fp : List Addr), DE (X.blk s H scope (compEnvC scope cl C X.env) fp) EN elt te F
  sg : ∃ is, SoG g is gF ∧ ∀ i ∈ is, i ∈ own.map (·.2)
theorem de_lc (b : Blk X scope own tg ifs elt g tt te gF T F) (hi : DI X E tg iter wi Fi) (hc : X.calm = true := by rfl) (hN : X.N.Nodup) (hs : ∀ x, foldedSetIterable iter X.env x = pure x := by intro _; rfl) :
    DE X E (.ListComp elt [⟨tg, iter, ifs, 0⟩] scope pos) (tLc wi g tt te (own.map (·.2))) (lcomp (own.map (·.2)) Fi gF T F) := by
  obtain ⟨is, h1, h2⟩ := b.sg
  exact ⟨pe_lc hc hN hi.1 b.ok b.pg (fun s H C cl fp => (b.pt s H C cl fp).1) (fun s H C cl fp => (b.pe s H C cl fp).1) hs, so_lc hi.2 h1 h2 (b.pt X.s_0 X.H_0 0 [] []).2 (b.pe X.s_0 X.H_0 0 [] []).2⟩
end
end DL
set_option Elab.async false
set_option linter.all false
set_option maxRecDepth 100000
set_option maxHeartbeats 4000000
set_option autoImplicit false
namespace DL
open PySem PySem.Spec PyProof.Rows L2
/-! ### defs by their mirrors -/
def PostR (η B : List Addr) (H : Hp) (Q : VK) (E : XK) : Res D → Prop
  | .ok d S' => ∀ v η' B' H', Nx η B η' B' S' H H' → Rp η' (cold B' H') d v → Q v H'
  | .exc C fs S' => ∀ dd ws η' B' H', Nx η B η' B' S' H H' → H dd = none → cold B' H' dd = some (.xd ws) → RpF η' (cold B' H') fs ws → E (.ref C) (some dd) H'
  | .bad => False
def spF (n : Nat) (m : List D → Sto → Res D) : Sp := fun vs H Q E => ∃ η B S ds, ds.length = n ∧ Wd η B S H ∧ RpL η (cold B H) ds vs ∧ PostR η B H Q E (m ds S)
theorem ev_spF {n : Nat} {m : List D → Sto → Res D} {E : XK} {η B : List Addr} {S : Sto} {H : Hp} {ds : List D} {vs : List V} (hl : ds.length = n) (w : Wd η B S H) (r : RpL η (cold B H) ds vs) : EvD η B E (fun Q => spF n m vs H Q E) H (m ds S) := by
  cases e : m ds S with
  | bad => trivial
  | ok d S' =>
    intro Q k
    refine ⟨η, B, S, ds, hl, w, r, ?_⟩
    rw [e]
    exact k
  | exc C fs S' =>
    intro Q k
    refine ⟨η, B, S, ds, hl, w, r, ?_⟩
    rw [e]
    exact k
@[simp] def callF (n : Nat) (m : List D → Sto → Res D) (F : Env → Sto → Res (List D)) : Env → Sto → Res D := fun ρ S => (F ρ S).bind fun ds S1 => if ds.length = n then m ds S1 else .bad
section
variable {X : Cx} {E : EK} {e : Expr} {es : List Expr} {pos p : Pos} {tas : TA} {Fs : Env → Sto → Res (List D)}
/-- a call whose errors are wished for at the slots -/
def tCallS' (sp : Sp) (E : EK) (t : TA) : TE := fun σ H Q => t σ H fun vs H1 => sp vs H1 Q (E σ)
theorem so_call {n : Nat} {m : List D → Sto → Res D} (ha : SoA E tas Fs) : SoE E (tCallS' (spF n m) E tas) (callF n m Fs) := fun η B S σ ρ H w s =>
  Ev.bind (T := tas σ H) (T' := fun vs H1 Q => spF n m vs H1 Q (E σ)) (ha η B S σ ρ H w s) fun ds S1 vs η1 B1 H1 n1 r1 => by
    by_cases hl : ds.length = n
    · rw [if_pos hl]
      exact ev_spF hl n1.wd r1
    · rw [if_neg hl]
      trivial
/-- what a callee lets out is taken at the slots -/
def PassS (CX : CXT) (X : Cx) (E : EK) : Prop := ∀ (pins : List (Addr × Obj)) (σ : L2.St) (H : Hp) (s : Shared) (e : Value) (s' : Shared), Inv X pins σ H s → CX X.stack H s (E σ) e s' → X.xe e s'
theorem de_call {CX : CXT} {n k : Nat} {m : List D → Sto → Res D} {f : Addr} {fd : FuncData} {ps : List Str} {x : Str} (G : FnOk X.prog X.w X.K X.mg X.base CX k f fd ps (spF n m)) (hr : Room k X.A) (hm : X.mg x = some (.ref f)) (hk : PySem.W.keepIn X.K (.ref f) = true) (hb : Binds X.K fd ps [])
    (hx : PassS CX X E) (ha : DA X E (e :: es) tas Fs) (hg : Gl X x := by rfl) (hdb : (x == ("__debug__" : Str)) = false := by decide) (he : starEach (e :: es) X.env = (false, eval e X.env) :: starEach es X.env := by rfl) (hpl : (backTo pos (starEach es X.env)).any (·.1) = false := by rfl) :
    DE X E (.Call (.Name x p) (e :: es) [] pos) (tCallS' (spF n m) E tas) (callF n m Fs) := by
  refine ⟨?_, so_call ha.2⟩
  have z := pe_callSD (p := p) (E := E) (dvs := []) G hr hg hm hk hb .nil (fun σ pins H s e s' I c => hx pins σ H s e s' I c) ha.1 hdb he hpl
  have e : tCallSD (spF n m) [] E tas = tCallS' (spF n m) E tas := by
    funext σ H Q
    unfold tCallSD tCallS'
    simp only [List.append_nil]
  rw [← e]
  exact z
end
/-! ### statements -/
inductive Flow where
  | nx (ρ : Env) (S : Sto) | rt (d : D) (S : Sto) | bk (ρ : Env) (S : Sto) | ct (ρ : Env) (S : Sto) | ex (C : Addr) (fs : List (Str × D)) (ρ : Env) (S : Sto) | bad
def Sv (η B : List Addr) (E : EK) (T : Ends → Prop) (H : Hp) : Flow → Prop
  | .nx ρ S' => ∀ D : Ends, (∀ σ' η' B' H', Nx η B η' B' S' H H' → Sl η' (cold B' H') σ' ρ → D.nx σ' H') → T D
  | .rt d S' => ∀ D : Ends, (∀ v η' B' H', Nx η B η' B' S' H H' → Rp η' (cold B' H') d v → D.rt v H') → T D
  | .bk ρ S' => ∀ D : Ends, (∀ σ' η' B' H', Nx η B η' B' S' H H' → Sl η' (cold B' H') σ' ρ → D.bk σ' H') → T D
  | .ct ρ S' => ∀ D : Ends, (∀ σ' η' B' H', Nx η B η' B' S' H H' → Sl η' (cold B' H') σ' ρ → D.ct σ' H') → T D
  | .ex C fs ρ S' => ∀ D : Ends, (∀ σ' dd ws η' B' H', Nx η B η' B' S' H H' → H dd = none → cold B' H' dd = some (.xd ws) → RpF η' (cold B' H') fs ws → Sl η' (cold B' H') σ' ρ → E σ' (.ref C) (some dd) H') → T D
  | .bad => True
def SoS (E : EK) (t : TS) (Φ : Env → Sto → Flow) : Prop := ∀ η B S σ ρ H, Wd η B S H → Sl η (cold B H) σ ρ → Sv η B E (fun D => t D σ H) H (Φ ρ S)
def DS (X : Cx) (E : EK) (st : Stmt) (t : TS) (Φ : Env → Sto → Flow) : Prop := PS X st t ∧ SoS E t Φ
def DSs (X : Cx) (E : EK) (st : List Stmt) (t : TS) (Φ : Env → Sto → Flow) : Prop := PSs X st t ∧ SoS E t Φ
def Res.flow {α : Type} (r : Res α) (ρ : Env) (k : α → Sto → Flow) : Flow := match r with
  | .ok a S => k a S
  | .exc C fs S => .ex C fs ρ S
  | .bad => .bad
@[simp] theorem Res.flow_ok {α : Type} (a : α) (S : Sto) (ρ : Env) (k : α → Sto → Flow) : (Res.ok a S).flow ρ k = k a S := rfl
@[simp] theorem Res.flow_bad {α : Type} (ρ : Env) (k : α → Sto → Flow) : (Res.bad : Res α).flow ρ k = .bad := rfl
@[simp] theorem Res.flow_exc {α : Type} (C : Addr) (fs : List (Str × D)) (S : Sto) (ρ : Env) (k : α → Sto → Flow) : (Res.exc C fs S : Res α).flow ρ k = .ex C fs ρ S := rfl
theorem Sv.of {α β : Type} {R : List Addr → Hp → α → β → Prop} {η B : List Addr} {E : EK} {σ : L2.St} {ρ : Env} {T : (β → Hp → Prop) → Prop} {T' : β → Hp → Ends → Prop} {H : Hp} {r : Res α} {k : α → Sto → Flow}
    (s : Sl η (cold B H) σ ρ) (h : Ev R η B (E σ) T H r) (hk : ∀ a S1 b η1 B1 H1, Nx η B η1 B1 S1 H H1 → R η1 (cold B1 H1) a b → Sv η1 B1 E (T' b H1) H1 (k a S1)) : Sv η B E (fun D => T fun b H1 => T' b H1 D) H (r.flow ρ k) := by
  cases r with
  | bad => trivial
  | exc C fs S1 => exact fun D q => h _ fun dd ws η' B' H' n h1 h2 h3 => q σ dd ws η' B' H' n h1 h2 h3 (n.sl s)
  | ok a S1 =>
    show Sv η B E _ H (k a S1)
    cases e : k a S1 with
    | bad => trivial
    | ex C fs ρ' S2 =>
      intro D q
      refine h _ fun b η1 B1 H1 n1 r1 => ?_
      have z := hk a S1 b η1 B1 H1 n1 r1
      rw [e] at z
      exact z D fun σ' dd ws η2 B2 H2 n2 hd h2 f2 s2 => q σ' dd ws η2 B2 H2 (n1.trans n2) (n1.back hd) h2 f2 s2
    | nx ρ S2 =>
      intro D q
      refine h _ fun b η1 B1 H1 n1 r1 => ?_
      have z := hk a S1 b η1 B1 H1 n1 r1
      rw [e] at z
      exact z D fun σ' η2 B2 H2 n2 r2 => q σ' η2 B2 H2 (n1.trans n2) r2
    | bk ρ S2 =>
      intro D q
      refine h _ fun b η1 B1 H1 n1 r1 => ?_
      have z := hk a S1 b η1 B1 H1 n1 r1
      rw [e] at z
      exact z D fun σ' η2 B2 H2 n2 r2 => q σ' η2 B2 H2 (n1.trans n2) r2
    | ct ρ S2 =>
      intro D q
      refine h _ fun b η1 B1 H1 n1 r1 => ?_
      have z := hk a S1 b η1 B1 H1 n1 r1
      rw [e] at z
      exact z D fun σ' η2 B2 H2 n2 r2 => q σ' η2 B2 H2 (n1.trans n2) r2
    | rt d S2 =>
      intro D q
      refine h _ fun b η1 B1 H1 n1 r1 => ?_
      have z := hk a S1 b η1 B1 H1 n1 r1
      rw [e] at z
      exact z D fun σ' η2 B2 H2 n2 r2 => q σ' η2 B2 H2 (n1.trans n2) r2
def Flow.seq (f : Flow) (k : Env → Sto → Flow) : Flow := match f with
  | .nx ρ S => k ρ S
  | x => x
@[simp] theorem Flow.seq_nx (ρ : Env) (S : Sto) (k : Env → Sto → Flow) : (Flow.nx ρ S).seq k = k ρ S := rfl
@[simp] theorem Flow.seq_rt (d : D) (S : Sto) (k : Env → Sto → Flow) : (Flow.rt d S).seq k = .rt d S := rfl
@[simp] theorem Flow.seq_ex (C : Addr) (fs : List (Str × D)) (ρ : Env) (S : Sto) (k : Env → Sto → Flow) : (Flow.ex C fs ρ S).seq k = .ex C fs ρ S := rfl
@[simp] theorem Flow.seq_bad (k : Env → Sto → Flow) : Flow.bad.seq k = .bad := rfl
@[simp] theorem Flow.seq_bk (ρ : Env) (S : Sto) (k : Env → Sto → Flow) : (Flow.bk ρ S).seq k = .bk ρ S := rfl
@[simp] theorem Flow.seq_ct (ρ : Env) (S : Sto) (k : Env → Sto → Flow) : (Flow.ct ρ S).seq k = .ct ρ S := rfl
section
variable {X : Cx} {E : EK} {e a b c : Expr} {es : List Expr} {st : Stmt} {sts body orelse : List Stmt} {pos p : Pos} {te ta tb : TE} {tc : TT} {tas : TA} {t u : TS} {F : Env → Sto → Res D} {Tc : Env → Sto → Res Bool} {Fs Fi : Env → Sto → Res (List D)} {Φ Ψ : Env → Sto → Flow}
@[simp] def fNext : Env → Sto → Flow := fun ρ S => .nx ρ S
theorem dss_nil : DSs X E [] tNext fNext := ⟨pss_nil, fun η B S σ ρ H w s D k => k σ η B H w.refl s⟩
theorem dss_one (h : DS X E st t Φ) : DSs X E [st] t Φ := ⟨pss_one h.1, h.2⟩
@[simp] def fSeq (Φ Ψ : Env → Sto → Flow) : Env → Sto → Flow := fun ρ S => (Φ ρ S).seq Ψ
theorem so_seq (h1 : SoS E t Φ) (h2 : SoS E u Ψ) : SoS E (tSeq t u) (fSeq Φ Ψ) := fun η B S σ ρ H w s => by
  have z := h1 η B S σ ρ H w s
  unfold fSeq
  cases e : Φ ρ S with
  | bad => trivial
  | rt d S' => rw [e] at z; exact fun D k => z _ k
  | bk ρ' S' => rw [e] at z; exact fun D k => z _ k
  | ct ρ' S' => rw [e] at z; exact fun D k => z _ k
  | ex C fs ρ' S' => rw [e] at z; exact fun D k => z _ k
  | nx ρ' S' =>
    rw [e] at z
    show Sv η B E _ H (Ψ ρ' S')
    cases e2 : Ψ ρ' S' with
    | bad => trivial
    | rt d S2 =>
      intro D k
      refine z _ fun σ1 η1 B1 H1 n1 s1 => ?_
      have y := h2 η1 B1 S' σ1 ρ' H1 n1.wd s1
      rw [e2] at y
      exact y D fun v η2 B2 H2 n2 r2 => k v η2 B2 H2 (n1.trans n2) r2
    | nx ρ2 S2 =>
      intro D k
      refine z _ fun σ1 η1 B1 H1 n1 s1 => ?_
      have y := h2 η1 B1 S' σ1 ρ' H1 n1.wd s1
      rw [e2] at y
      exact y D fun v η2 B2 H2 n2 r2 => k v η2 B2 H2 (n1.trans n2) r2
    | bk ρ2 S2 =>
      intro D k
      refine z _ fun σ1 η1 B1 H1 n1 s1 => ?_
      have y := h2 η1 B1 S' σ1 ρ' H1 n1.wd s1
      rw [e2] at y
      exact y D fun v η2 B2 H2 n2 r2 => k v η2 B2 H2 (n1.trans n2) r2
    | ct ρ2 S2 =>
      intro D k
      refine z _ fun σ1 η1 B1 H1 n1 s1 => ?_
      have y := h2 η1 B1 S' σ1 ρ' H1 n1.wd s1
      rw [e2] at y
      exact y D fun v η2 B2 H2 n2 r2 => k v η2 B2 H2 (n1.trans n2) r2
    | ex C fs ρ2 S2 =>
      intro D k
      refine z _ fun σ1 η1 B1 H1 n1 s1 => ?_
      have y := h2 η1 B1 S' σ1 ρ' H1 n1.wd s1
      rw [e2] at y
      exact y D fun σ' dd ws η2 B2 H2 n2 hd h2 f2 s2 => k σ' dd ws η2 B2 H2 (n1.trans n2) (n1.back hd) h2 f2 s2
theorem dss_cons (h1 : DS X E st t Φ) (h2 : DSs X E sts u Ψ) : DSs X E (st :: sts) (tSeq t u) (fSeq Φ Ψ) := ⟨pss_cons h1.1 h2.1, so_seq h1.2 h2.2⟩
@[simp] def fRet (F : Env → Sto → Res D) : Env → Sto → Flow := fun ρ S => (F ρ S).flow ρ .rt
theorem ds_ret (h : DE X E e te F) : DS X E (.Return (some e) pos) (tRet te) (fRet F) :=
  ⟨ps_ret h.1, fun η B S σ ρ H w s => Sv.of s (T := te σ H) (T' := fun v H1 D => D.rt v H1) (h.2 η B S σ ρ H w s) fun d S1 v η1 B1 H1 n1 r1 D k => k v η1 B1 H1 n1.wd.refl r1⟩
@[simp] def fSet (i : Nat) (F : Env → Sto → Res D) : Env → Sto → Flow := fun ρ S => (F ρ S).flow ρ fun d S1 => .nx (ρ.set i (some d)) S1
theorem so_set {i : Nat} (h : SoE E te F) : SoS E (tAsg te (gName i)) (fSet i F) := fun η B S σ ρ H w s =>
  Sv.of s (T := te σ H) (T' := fun v H1 D => D.nx (σ.set i (some v)) H1) (h η B S σ ρ H w s) fun d S1 v η1 B1 H1 n1 r1 D k => k _ η1 B1 H1 n1.wd.refl ((n1.sl s).set r1)
theorem ds_set (i : Nat) {x : Str} {pos' : Pos} (hN : X.N.Nodup) (h : DE X E e te F) (hi : X.N[i]? = some x := by rfl) (hx : Loc X.env.scope x := by first | exact Or.inl rfl | exact Or.inr rfl) (hs : swapsWith e (some (.Name x pos')) pos.line X.env = pure false := by rfl) (hf : X.fn x = true ∨ X.env.scope.names.lookup x = some .local := by first | exact .inl rfl | exact .inr rfl | assumption) :
    DS X E (.Assign [.Name x pos'] e pos) (tAsg te (gName i)) (fSet i F) := ⟨ps_set hN hi hx h.1 hs hf, so_set h.2⟩
@[simp] def fPar (i j : Nat) (F : Env → Sto → Res (List D)) : Env → Sto → Flow := fun ρ S => (F ρ S).flow ρ fun ds S1 => match ds with
  | [a, b] => .nx ((ρ.set i (some a)).set j (some b)) S1
  | _ => .bad
theorem so_par {i j : Nat} (h : SoA E tas Fs) : SoS E (tPar i j tas) (fPar i j Fs) := fun η B S σ ρ H w s =>
  Sv.of s (T := tas σ H) (T' := fun vs H1 D => ∃ v w, vs = [v, w] ∧ D.nx ((σ.set i (some v)).set j (some w)) H1) (h η B S σ ρ H w s) fun ds S1 vs η1 B1 H1 n1 r1 => by
    split
    · obtain ⟨v1, r2, rfl, ra, v2, r3, rfl, rb, rfl⟩ := r1
      exact fun D k => ⟨v1, v2, rfl, k _ η1 B1 H1 n1.wd.refl (((n1.sl s).set ra).set rb)⟩
    · trivial
@[simp] def fExpr (F : Env → Sto → Res D) : Env → Sto → Flow := fun ρ S => (F ρ S).flow ρ fun _ S1 => .nx ρ S1
theorem ds_expr (h : DE X E e te F) (hs : swapsWith e none pos.line X.env = pure false := by rfl) : DS X E (.Expr e pos) (tDrop te) (fExpr F) :=
  ⟨ps_expr h.1 hs, fun η B S σ ρ H w s => Sv.of s (T := te σ H) (T' := fun v H1 D => D.nx σ H1) (h.2 η B S σ ρ H w s) fun d S1 v η1 B1 H1 n1 r1 D k => k σ η1 B1 H1 n1.wd.refl (n1.sl s)⟩
@[simp] def fIf (T : Env → Sto → Res Bool) (Φ Ψ : Env → Sto → Flow) : Env → Sto → Flow := fun ρ S => (T ρ S).flow ρ fun b S1 => if b = true then Φ ρ S1 else Ψ ρ S1
theorem ds_if (hc : DT X E c tc Tc) (h1 : DSs X E body t Φ) (h2 : DSs X E orelse u Ψ) : DS X E (.If c body orelse pos) (tIfS tc t u) (fIf Tc Φ Ψ) :=
  ⟨ps_if hc.1 h1.1 h2.1, fun η B S σ ρ H w s => Sv.of s (T := tc σ H) (T' := fun b H1 D => if b = true then t D σ H1 else u D σ H1) (hc.2 η B S σ ρ H w s) fun b S1 b' η1 B1 H1 n1 r1 => by
    subst r1
    cases b with
    | true => exact h1.2 η1 B1 S1 σ ρ H1 n1.wd (n1.sl s)
    | false => exact h2.2 η1 B1 S1 σ ρ H1 n1.wd (n1.sl s)⟩
/-! ### for -/
def forF (gF : D → Env → Option Env) (Φ : Env → Sto → Flow) : List D → Env → Sto → Flow
  | [], ρ, S => .nx ρ S
  | d :: ds, ρ, S => match gF d ρ with
    | none => .bad
    | some ρ1 => match Φ ρ1 S with
      | .nx ρ2 S2 => forF gF Φ ds ρ2 S2
      | .ct ρ2 S2 => forF gF Φ ds ρ2 S2
      | .bk ρ2 S2 => .nx ρ2 S2
      | .rt d S2 => .rt d S2
      | .ex C fs ρ2 S2 => .ex C fs ρ2 S2
      | .bad => .bad
@[simp] def fFor (Fi : Env → Sto → Res (List D)) (gF : D → Env → Option Env) (Φ : Env → Sto → Flow) : Env → Sto → Flow := fun ρ S => (Fi ρ S).flow ρ fun items S1 => forF gF Φ items ρ S1
theorem so_for {wi : TI} {g : TG} {is : List Nat} {gF : D → Env → Option Env} (hi : SoI E wi Fi) (hg : SoG g is gF) (hb : SoS E t Φ) : SoS E (tFor wi g t) (fFor Fi gF Φ) := fun η B S σ ρ H w s => by
  refine Sv.of s (T := wi σ H) (T' := fun (J : It) (H1 : Hp) (D : Ends) => ∃ W : Nat → Nat → L2.St → Hp → Prop, (∃ m, W 0 m σ H1) ∧ ∀ i m σ H, W i m σ H →
    (J.stop i H ∧ D.nx σ H) ∨ (J.go i H ∧ ∃ N : L2.St → Hp → Prop, (∀ σ' H', N σ' H' → ∃ m', m' < m ∧ W (i + 1) m' σ' H') ∧ ∀ x H', J.yld i H x H' → g x σ H' fun σ2 H2 => t { D with nx := N, ct := N, bk := D.nx } σ2 H2)) (hi η B S σ ρ H w s) fun items S1 J η1 B1 H1 n1 ri => ?_
  obtain ⟨G, Y, wk, hG, hY⟩ := ri
  have s1 := n1.sl s
  -- the loop, whatever its end R is
  have loop : ∀ (R : Flow) (D : Ends), forF gF Φ items ρ S1 = R → R ≠ .bad → (∀ ρ' S' σ' η' B' H', R = .nx ρ' S' → Nx η1 B1 η' B' S' H1 H' → Sl η' (cold B' H') σ' ρ' → D.nx σ' H') → (∀ d S' v η' B' H', R = .rt d S' → Nx η1 B1 η' B' S' H1 H' → Rp η' (cold B' H') d v → D.rt v H') →
      (∀ C fs ρ' S' σ' dd ws η' B' H', R = .ex C fs ρ' S' → Nx η1 B1 η' B' S' H1 H' → H1 dd = none → cold B' H' dd = some (.xd ws) → RpF η' (cold B' H') fs ws → Sl η' (cold B' H') σ' ρ' → E σ' (.ref C) (some dd) H') →
      ∃ W : Nat → Nat → L2.St → Hp → Prop, (∃ m, W 0 m σ H1) ∧ ∀ i m σ H, W i m σ H →
    (J.stop i H ∧ D.nx σ H) ∨ (J.go i H ∧ ∃ N : L2.St → Hp → Prop, (∀ σ' H', N σ' H' → ∃ m', m' < m ∧ W (i + 1) m' σ' H') ∧ ∀ x H', J.yld i H x H' → g x σ H' fun σ2 H2 => t { D with nx := N, ct := N, bk := D.nx } σ2 H2) := by
    intro R D hR nb kn kr ke
    refine for_it wk (fun i σ' H' => ∃ ηi Bi ρi Si, forF gF Φ (items.drop i) ρi Si = R ∧ Nx η1 B1 ηi Bi Si H1 H' ∧ Sl ηi (cold Bi H') σ' ρi) ⟨η1, B1, ρ, S1, hR, n1.wd.refl, s1⟩ ?_ ?_ ?_
    · rintro i σ' H' _ ⟨ηi, Bi, ρi, Si, _, n', _⟩
      exact hG ηi Bi Si H' n'.up n'.wd n'.same
    · rintro i x σ' H' H'' hlt ⟨ηi, Bi, ρi, Si, hr, n', s'⟩ y
      obtain ⟨n2, d, hd, rd⟩ := hY ηi Bi Si H' i x H'' n'.up n'.wd n'.same hlt y
      have hdrop : items.drop i = d :: items.drop (i + 1) := by
        rw [List.drop_eq_getElem_cons hlt]
        congr 1
        rw [List.getElem?_eq_getElem hlt] at hd
        exact Option.some.inj hd
      rw [hdrop] at hr
      unfold forF at hr
      cases hg1 : gF d ρi with
      | none => rw [hg1] at hr; exact absurd hr.symm nb
      | some ρ1 =>
        rw [hg1] at hr
        dsimp only at hr
        refine hg ηi Bi Si H'' d x σ' ρi ρ1 n2.wd (n2.sl s') rd hg1 _ fun σ2 s2 _ => ?_
        have n3 := n'.trans n2
        have z := hb ηi Bi Si σ2 ρ1 H'' n2.wd s2
        cases hf : Φ ρ1 Si with
        | bad => rw [hf] at hr; exact absurd hr.symm nb
        | nx ρ2 S2 => rw [hf] at hr z; exact z _ fun σ3 η3 B3 H3 n4 s4 => ⟨η3, B3, ρ2, S2, hr, n3.trans n4, s4⟩
        | ct ρ2 S2 => rw [hf] at hr z; exact z _ fun σ3 η3 B3 H3 n4 s4 => ⟨η3, B3, ρ2, S2, hr, n3.trans n4, s4⟩
        | bk ρ2 S2 => rw [hf] at hr z; exact z _ fun σ3 η3 B3 H3 n4 s4 => kn ρ2 S2 σ3 η3 B3 H3 hr.symm (n3.trans n4) s4
        | rt d S2 => rw [hf] at hr z; exact z _ fun v η3 B3 H3 n4 s4 => kr d S2 v η3 B3 H3 hr.symm (n3.trans n4) s4
        | ex C fs ρ2 S2 => rw [hf] at hr z; exact z _ fun σ3 dd ws η3 B3 H3 n4 hd h2 f2 s2 => ke C fs ρ2 S2 σ3 dd ws η3 B3 H3 hr.symm (n3.trans n4) (n3.back hd) h2 f2 s2
    · rintro σ' H' ⟨ηi, Bi, ρi, Si, hr, n', s'⟩
      rw [List.drop_length] at hr
      exact kn ρi Si σ' ηi Bi H' hr.symm n' s'
  show Sv η1 B1 E _ H1 (forF gF Φ items ρ S1)
  cases hR : forF gF Φ items ρ S1 with
  | bad => trivial
  | nx ρ' S' => exact fun D k => loop _ D hR (fun z => nomatch z) (fun ρ2 S2 σ' η' B' H' e n' s' => by cases e; exact k σ' η' B' H' n' s') (fun _ _ _ _ _ _ e => nomatch e) (fun _ _ _ _ _ _ _ _ _ _ e => nomatch e)
  | rt d S' => exact fun D k => loop _ D hR (fun z => nomatch z) (fun _ _ _ _ _ _ e => nomatch e) (fun d2 S2 v η' B' H' e n' s' => by cases e; exact k v η' B' H' n' s') (fun _ _ _ _ _ _ _ _ _ _ e => nomatch e)
  | ex C fs ρ' S' => exact fun D k => loop _ D hR (fun z => nomatch z) (fun _ _ _ _ _ _ e => nomatch e) (fun _ _ _ _ _ _ e => nomatch e) (fun C2 fs2 ρ2 S2 σ2 dd ws η' B' H' e n' hd h2 f2 s2 => by cases e; exact k σ2 dd ws η' B' H' n' hd h2 f2 s2)
  | bk ρ' S' =>
    exfalso
    have no : ∀ (ds : List D) (ρ : Env) (S : Sto) (ρ' : Env) (S' : Sto), forF gF Φ ds ρ S ≠ .bk ρ' S' := by
      intro ds
      induction ds with
      | nil => intro ρ S ρ' S' z; cases z
      | cons d ds ih =>
        intro ρ S ρ' S' z
        unfold forF at z
        split at z
        · cases z
        · split at z <;> first | (cases z; done) | exact ih _ _ _ _ z
    exact no _ _ _ _ _ hR
  | ct ρ' S' =>
    exfalso
    have no : ∀ (ds : List D) (ρ : Env) (S : Sto) (ρ' : Env) (S' : Sto), forF gF Φ ds ρ S ≠ .ct ρ' S' := by
      intro ds
      induction ds with
      | nil => intro ρ S ρ' S' z; cases z
      | cons d ds ih =>
        intro ρ S ρ' S' z
        unfold forF at z
        split at z
        · cases z
        · split at z <;> first | (cases z; done) | exact ih _ _ _ _ z
    exact no _ _ _ _ _ hR
theorem ds_for {tg iter : Expr} {wi : TI} {g : TG} {is : List Nat} {gF : D → Env → Option Env} (hp : PassesOwn (model X.prog X.w) X.A X.env X.xe) (hi : DI X E tg iter wi Fi) (pg : PG X tg g) (hg : SoG g is gF) (hb : DSs X E body t Φ) (hc : X.calm = true := by rfl) (hs : ∀ x, foldedSetIterable iter X.env x = pure x := by intro _; rfl) :
    DS X E (.For tg iter body [] pos) (tFor wi g t) (fFor Fi gF Φ) := ⟨ps_for hp hc hi.1 pg hb.1 hs, so_for hi.2 hg hb.2⟩
end
end DL
set_option Elab.async false
set_option linter.all false
set_option maxRecDepth 100000
set_option maxHeartbeats 4000000
set_option autoImplicit false
namespace DL
open PySem PySem.Spec PyProof.Rows L2
@[simp] def startE (N : List Str) (ds : List D) : Env := ds.map some ++ List.replicate (N.length - ds.length) none
theorem sl_start {η : List Addr} {Hc : Hp} {N : List Str} {ds : List D} {vs : List V} (r : RpL η Hc ds vs) : Sl η Hc (L2.start N vs) (startE N ds) := by
  have hl := r.length
  refine ⟨?_, fun i d h => ?_⟩
  · unfold L2.start startE
    rw [List.length_append, List.length_append, List.length_map, List.length_map, List.length_replicate, List.length_replicate, hl]
  · unfold startE at h
    unfold L2.start
    by_cases hi : i < ds.length
    · rw [List.getElem?_append_left (by rw [List.length_map]; exact hi), List.getElem?_map] at h
      cases e : ds[i]? with
      | none => rw [e] at h; cases h
      | some d' =>
        rw [e] at h
        cases h
        obtain ⟨v, e1, r1⟩ := r.got e
        refine ⟨v, ?_, r1⟩
        rw [List.getElem?_append_left (by rw [List.length_map, hl]; exact hi), List.getElem?_map, e1]
        rfl
    · rw [List.getElem?_append_right (by rw [List.length_map]; omega)] at h
      rw [List.getElem?_replicate] at h
      split at h <;> cases h
@[simp] def runF (N : List Str) (Φ : Env → Sto → Flow) (ds : List D) (S : Sto) : Res D := match Φ (startE N ds) S with
  | .rt d S' => .ok d S'
  | .nx _ S' => .ok .non S'
  | .ex C fs _ S' => .exc C fs S'
  | _ => .bad
def Imp (a b : Res D) : Prop := a = .bad ∨ b = a
section
variable {P : Program} {w : World} {K : PySem.W.Frag} {mg : Str → Option Value} {base : Heap}
theorem pass_fn' {N : List Str} {qual : Str} {sc : Scope} {f : Addr} {cdv : Value} {A : Around} {outer : List PySem.Env} {s : Shared} {H : Hp} {E : XK} : Passes (L2.CX P w) (cxOf (L2.CX P w) P w K mg base N qual sc f cdv A outer s H E) E :=
  passes_call (X := cxOf (L2.CX P w) P w K mg base N qual sc f cdv A outer s H E) (takes_of rfl rfl rfl rfl) fun _ _ _ _ z => z
theorem pass_fn {N : List Str} {qual : Str} {sc : Scope} {f : Addr} {cdv : Value} {A : Around} {outer : List PySem.Env} {s : Shared} {H : Hp} {E : XK} : PassS (L2.CX P w) (cxOf (L2.CX P w) P w K mg base N qual sc f cdv A outer s H E) (fun _ => E) := pass_fn'
theorem passN {X : Cx} : PassS (L2.CX X.prog X.w) X EN := passL
theorem own_fn {N : List Str} {qual : Str} {sc : Scope} {f : Addr} {cdv : Value} {A : Around} {outer : List PySem.Env} {s : Shared} {H : Hp} {E : XK} :
    PassesOwn (model P w) (cxOf (L2.CX P w) P w K mg base N qual sc f cdv A outer s H E).A (cxOf (L2.CX P w) P w K mg base N qual sc f cdv A outer s H E).env (cxOf (L2.CX P w) P w K mg base N qual sc f cdv A outer s H E).xe :=
  passes_of (X := cxOf (L2.CX P w) P w K mg base N qual sc f cdv A outer s H E) rfl
theorem sv_run {N : List Str} {E : XK} {t : TS} {Φ : Env → Sto → Flow} (so : SoS (fun _ => E) t Φ) {η B : List Addr} {S : Sto} {H : Hp} {ds : List D} {vs : List V} {m : Res D} {Q : VK} (wd : Wd η B S H) (r : RpL η (cold B H) ds vs) (im : Imp m (runF N Φ ds S))
    (q : PostR η B H Q E m) : t { nx := fun _ H' => Q .non H', rt := Q } (L2.start N vs) H := by
  have z := so η B S (L2.start N vs) (startE N ds) H wd (sl_start r)
  rcases im with rfl | im
  · exact q.elim
  · unfold runF at im
    cases e : Φ (startE N ds) S with
    | bad => rw [e] at im; rw [← im] at q; exact q.elim
    | bk ρ S' => rw [e] at im; rw [← im] at q; exact q.elim
    | ct ρ S' => rw [e] at im; rw [← im] at q; exact q.elim
    | rt d S' => rw [e] at im z; rw [← im] at q; exact z _ fun v η' B' H' n r => q v η' B' H' n r
    | nx ρ S' => rw [e] at im z; rw [← im] at q; exact z _ fun σ' η' B' H' n s => q .non η' B' H' n rfl
    | ex C fs ρ S' => rw [e] at im z; rw [← im] at q; exact z _ fun σ' dd ws η' B' H' n h1 h2 h3 _ => q dd ws η' B' H' n h1 h2 h3
/-- a def by its body's data -/
theorem fnd {x qual : Str} {st : Stmt} {f : Addr} {fd : FuncData} {N ps : List Str} {k : Nat} (m : List D → Sto → Res D) (F : Fun K x qual st f fd) (Sc : FnScope N ps (defScope st))
    (hbody : ∀ (cdv : Value) (A : Around) (outer : List PySem.Env) (s : Shared) (H : Hp) (E : XK), Room k (A.deeper (envOfC qual (defScope st) s.heap.objs.size f cdv)) →
      ∃ t Φ, DSs (cxOf (L2.CX P w) P w K mg base N qual (defScope st) f cdv A outer s H E) (fun _ => E) (defBody st) t Φ ∧ ∀ ds S, ds.length = ps.length → Imp (m ds S) (runF N Φ ds S)) : FnOk P w K mg base (L2.CX P w) (k + 1) f fd ps (spF ps.length m) := by
  refine F.okX Sc (fun vs H Q E h => ?_) (fun cdv A outer s H vs Q E hr h => ?_)
  · obtain ⟨η, B, S, ds, hl, _, r, _⟩ := h
    rw [r.length, hl]
  · obtain ⟨η, B, S, ds, hl, wd, r, q⟩ := h
    obtain ⟨t, Φ, ⟨pss, so⟩, im⟩ := hbody cdv A outer s H E hr
    exact ⟨t, pss, sv_run so wd r (im ds S hl) q⟩
end
/-! ### loops of pure parts -/
theorem lcF_map {gF : D → Env → Option Env} {T : Env → Sto → Res Bool} {F : Env → Sto → Res D} {ρ : Env} {S : Sto} {f : D → D} : ∀ {items : List D} {acc : List D}, (∀ d ∈ items, ∃ ρ1, gF d ρ = some ρ1 ∧ T ρ1 S = .ok true S ∧ F ρ1 S = .ok (f d) S) →
    lcF gF T F ρ items S acc = .ok (acc ++ items.map f) S
  | [], acc, _ => by simp [lcF]
  | d :: ds, acc, h => by
    obtain ⟨ρ1, h1, h2, h3⟩ := h d List.mem_cons_self
    unfold lcF
    rw [h1]
    simp only [h2, h3]
    rw [lcF_map fun d' hd => h d' (List.mem_cons_of_mem _ hd)]
    simp
theorem lcF_filter {gF : D → Env → Option Env} {T : Env → Sto → Res Bool} {F : Env → Sto → Res D} {ρ : Env} {S : Sto} {f : D → D} {p : D → Bool} : ∀ {items : List D} {acc : List D}, (∀ d ∈ items, ∃ ρ1, gF d ρ = some ρ1 ∧ T ρ1 S = .ok (p d) S ∧ (p d = true → F ρ1 S = .ok (f d) S)) →
    lcF gF T F ρ items S acc = .ok (acc ++ (items.filter p).map f) S
  | [], acc, _ => by simp [lcF]
  | d :: ds, acc, h => by
    obtain ⟨ρ1, h1, h2, h3⟩ := h d List.mem_cons_self
    have ih := fun acc => lcF_filter (acc := acc) fun d' hd => h d' (List.mem_cons_of_mem _ hd)
    unfold lcF
    rw [h1]
    simp only [h2]
    cases hp : p d with
    | true =>
      simp only [h3 hp]
      rw [ih]
      simp [List.filter_cons, hp]
    | false =>
      simp only []
      rw [ih]
      simp [List.filter_cons, hp]
/-! ### operations on data -/
def small (n : Nat) : Bool := decide (n ≤ 100000)
@[simp] def opAdd (S : Sto) (x y : D) : Option D := match x, y with
  | .int i, .int j => some (.int (i + j))
  | .str a, .str b => if a.length + b.length ≤ 100000 then some (.str (a ++ b)) else none
  | x, y => match vL S x, vL S y with
    | some a, some b => if a.length + b.length ≤ 100000 then some (.lst (a ++ b)) else none
    | _, _ => none
def rAddA : R2 := fun x y H Q => (∃ i j, x = .int i ∧ y = .int j ∧ Q (.int (i + j)) H) ∨ (∃ i j, x = .str i ∧ y = .str j ∧ i.length + j.length ≤ sizeLine ∧ Q (.str (i ++ j)) H) ∨ rCat x y H Q
theorem or_add {X : Cx} : OpR X (binaryOp .Add) rAddA := OpR.or op_add (OpR.or op_add_str op_cat)
theorem v_add : V2 rAddA opAdd := fun E η B S H x y u v w rx ry => by
  unfold opAdd
  split
  · obtain rfl := rx; obtain rfl := ry
    exact fun Q k => .inl ⟨_, _, rfl, rfl, k _ _ _ H w.refl rfl⟩
  · obtain rfl := rx; obtain rfl := ry
    split
    · rename_i h
      exact fun Q k => .inr (.inl ⟨_, _, rfl, rfl, size_ok h, k _ _ _ H w.refl rfl⟩)
    · trivial
  · split
    · rename_i h1 h2
      obtain ⟨a, xs, rfl, ha, ra⟩ := w.seeL rx h1
      obtain ⟨b, ys, rfl, hb, rb⟩ := w.seeL ry h2
      split
      · rename_i h
        exact fun Q k => .inr (.inr ⟨a, b, xs, ys, rfl, rfl, ha, hb, by rw [ra.length, rb.length]; exact size_ok h, fun p hp => k _ _ _ _ (w.new hp) ⟨p, _, rfl, w.cold_new hp, (w.new hp).rpL (ra.append rb)⟩⟩)
      · trivial
    · trivial
@[simp] def opI (f : Int → Int → D) (_ : Sto) : D → D → Option D
  | .int i, .int j => some (f i j)
  | _, _ => none
theorem v_I0 {g : Int → Int → V} {f : Int → Int → D} (h : ∀ i j η H, Rp η H (f i j) (g i j)) : V2 (rI0 g) (opI f) := fun E η B S H x y u v w rx ry => by
  unfold opI
  split
  · obtain rfl := rx; obtain rfl := ry
    exact fun Q k => ⟨_, _, rfl, rfl, k _ η B H w.refl (h _ _ _ _)⟩
  · trivial
theorem v_sub : V2 (rI0 fun i j => .int (i - j)) (opI fun i j => .int (i - j)) := v_I0 fun _ _ _ _ => rfl
theorem v_le : V2 (rI0 fun i j => .bl (decide (i ≤ j))) (opI fun i j => .bl (decide (i ≤ j))) := v_I0 fun _ _ _ _ => rfl
theorem v_lt : V2 (rI0 fun i j => .bl (decide (i < j))) (opI fun i j => .bl (decide (i < j))) := v_I0 fun _ _ _ _ => rfl
theorem v_gt : V2 (rI0 fun i j => .bl (decide (j < i))) (opI fun i j => .bl (decide (j < i))) := v_I0 fun _ _ _ _ => rfl
theorem v_ge : V2 (rI0 fun i j => .bl (decide (j ≤ i))) (opI fun i j => .bl (decide (j ≤ i))) := v_I0 fun _ _ _ _ => rfl
/-- one sign in a text -/
def opInC (_ : Sto) : D → D → Option D
  | .str x, .str z => match x.cps.toList with
    | [c] => some (.bl (decide (c ∈ z.cps.toList)))
    | _ => none
  | _, _ => none
def rInC : R2 := fun x y H Q => ∃ (c : Nat) (z : Str), x = .str ⟨#[c]⟩ ∧ y = .str z ∧ Q (.bl (decide (c ∈ z.cps.toList))) H
theorem v_inC : V2 rInC opInC := fun E η B S H x y u v w rx ry => by
  unfold opInC
  split
  · rename_i x z
    obtain rfl := rx; obtain rfl := ry
    split
    · rename_i c hc
      have e : x = ⟨#[c]⟩ := by
        obtain ⟨cps⟩ := x
        congr
        exact Array.toList_inj.mp hc
      subst e
      exact fun Q k => ⟨_, _, rfl, rfl, k _ η B H w.refl rfl⟩
    · trivial
  · trivial
/-! ### built-in functions -/
@[simp] def fLen (S : Sto) : List D → Option D
  | [.str z] => if z.length ≤ 100000 then some (.int z.length) else none
  | [.tup l] => some (.int l.length)
  | [.scr l] => some (.int l.length)
  | [x] => (vL S x).map fun l => .int l.length
  | _ => none
def rLenA (K : PySem.W.Frag) : List V → Hp → VK → Prop := fun xs H Q => (∃ z, xs = [.str z] ∧ z.length ≤ sizeLine ∧ Q (.int z.length) H) ∨ ∃ p ys, xs = [.ref p] ∧ (SqL K H p ys ∨ SqT K H p ys) ∧ Q (.int ys.length) H
theorem cr_lenA {X : Cx} {K : PySem.W.Frag} (hK : X.K = K := by rfl) : CallR X (.builtin "len") (rLenA K) := by
  subst hK
  exact CallR.or call_len_str call_len_seq
theorem cr_isiK {X : Cx} {K : PySem.W.Frag} (hK : X.K = K := by rfl) : CallR X (.builtin "isinstance") (rIsi K) := by
  subst hK
  exact call_isi
theorem cr_allK {X : Cx} {K : PySem.W.Frag} (hc : X.calm = true := by rfl) (hK : X.K = K := by rfl) : CallR X (.builtin "all") (rAll K) := by
  subst hK
  exact cr_all hc
theorem cr_anyK {X : Cx} {K : PySem.W.Frag} (hc : X.calm = true := by rfl) (hK : X.K = K := by rfl) : CallR X (.builtin "any") (rAny K) := by
  subst hK
  exact cr_any hc
theorem v_len (K : PySem.W.Frag) : VN (rLenA K) fLen := fun E η B S H ds vs w r => by
  unfold fLen
  split
  · obtain ⟨v, r2, rfl, rfl, rfl⟩ := r
    split
    · rename_i h
      exact fun Q k => .inl ⟨_, rfl, size_ok h, k _ _ _ H w.refl rfl⟩
    · trivial
  · obtain ⟨v, r2, rfl, ⟨a, xs, rfl, ha, ra⟩, rfl⟩ := r
    exact fun Q k => .inr ⟨a, xs, rfl, .inr (.inl (.inl (cold_of ha).1)), k _ _ _ H w.refl (by rw [ra.length]; rfl)⟩
  · obtain ⟨v, r2, rfl, ⟨a, o, rfl, ha⟩, rfl⟩ := r
    exact fun Q k => .inr ⟨a, _, rfl, .inl (.inl (.inr ⟨o, (cold_of ha).1⟩)), k _ _ _ H w.refl (by rw [List.length_map]; rfl)⟩
  · rename_i x _ _ _
    obtain ⟨v, r2, rfl, rx, rfl⟩ := r
    cases hx : vL S x with
    | none => trivial
    | some l =>
      obtain ⟨a, xs, rfl, ha, ra⟩ := w.seeL rx hx
      exact fun Q k => .inr ⟨a, xs, rfl, .inl (.inl (.inl ha)), k _ _ _ H w.refl (by rw [ra.length]; rfl)⟩
  · trivial
@[simp] def tyN : D → Option String
  | .non => some "NoneType" | .bl _ => some "bool" | .int _ => some "int" | .str _ => some "str" | .lst _ => some "list" | .tup _ => some "tuple" | .dic _ => some "dict"
  | _ => none
def tyS (S : Sto) : D → Option String
  | .hot i => match S[i]? with
    | some (.lst _) => some "list"
    | some (.dic _) => some "dict"
    | some (.dit _) => some "dict"
    | _ => none
  | d => tyN d
@[simp] def fIsi (S : Sto) : List D → Option D
  | [x, .ty n] => (tyN x).bind fun t => (kitB t n).map .bl
  | _ => none
theorem rp_ty {K : PySem.W.Frag} {η B : List Addr} {H : Hp} {d : D} {v : V} {t : String} (r : Rp η (cold B H) d v) (h : tyN d = some t) : TyX K H v (.type t) := by
  cases d <;> (unfold tyN at h) <;> first | (cases h; done) | skip
  · cases h; obtain rfl := r; exact .base .non
  · cases h; obtain rfl := r; exact .base (.bl _)
  · cases h; obtain rfl := r; exact .base (.int _)
  · cases h; obtain rfl := r; exact .base (.str _)
  · cases h; obtain ⟨a, xs, rfl, ha, _⟩ := r; exact .base (.lst (cold_of ha).1)
  · cases h; obtain ⟨a, xs, rfl, ha, _⟩ := r; exact .base (.tup (cold_of ha).1)
  · cases h
    obtain ⟨a, xs, rfl, ha, _⟩ := r
    rcases ha with ha | ⟨o, ha⟩
    · exact .base (.dK (cold_of ha).1)
    · exact .fDict (cold_of ha).1
theorem v_isi (K : PySem.W.Frag) : VN (rIsi K) fIsi := fun E η B S H ds vs w r => by
  unfold fIsi
  split
  · rename_i x n
    obtain ⟨v, r2, rfl, rx, u, r3, rfl, rfl, rfl⟩ := r
    cases ht : tyN x with
    | none => trivial
    | some t =>
      show EvD η B E _ H (lift ((kitB t n).map .bl) S)
      cases hk : kitB t n with
      | none => trivial
      | some b => exact fun Q k => ⟨v, .ty n, _, _, b, rfl, .ty n, rp_ty rx ht, kit_ty hk, k _ η B H w.refl rfl⟩
  · trivial
theorem lcomp_map {vs : List Nat} {Fi : Env → Sto → Res (List D)} {gF : D → Env → Option Env} {T : Env → Sto → Res Bool} {F : Env → Sto → Res D} {ρ : Env} {S S' : Sto} (items : List D) (f : D → D) (hi : Fi ρ S = .ok items S') (hn : items.length ≤ 100000)
    (h : ∀ d ∈ items, ∃ ρ1, gF d (wipeE ρ vs) = some ρ1 ∧ T ρ1 S' = .ok true S' ∧ F ρ1 S' = .ok (f d) S') : lcomp vs Fi gF T F ρ S = .ok (.lst (items.map f)) S' := by
  unfold lcomp
  rw [hi]
  show (if items.length ≤ 100000 then _ else _) = _
  rw [if_pos hn, lcF_map h]
  rfl
theorem lcomp_filter {vs : List Nat} {Fi : Env → Sto → Res (List D)} {gF : D → Env → Option Env} {T : Env → Sto → Res Bool} {F : Env → Sto → Res D} {ρ : Env} {S S' : Sto} (items : List D) (p : D → Bool) (f : D → D) (hi : Fi ρ S = .ok items S') (hn : items.length ≤ 100000)
    (h : ∀ d ∈ items, ∃ ρ1, gF d (wipeE ρ vs) = some ρ1 ∧ T ρ1 S' = .ok (p d) S' ∧ (p d = true → F ρ1 S' = .ok (f d) S')) : lcomp vs Fi gF T F ρ S = .ok (.lst ((items.filter p).map f)) S' := by
  unfold lcomp
  rw [hi]
  show (if items.length ≤ 100000 then _ else _) = _
  rw [if_pos hn, lcF_filter h]
  rfl
def bools : List D → Option (List Bool)
  | [] => some []
  | .bl b :: r => (bools r).map (b :: ·)
  | _ => none
theorem rp_bools {η : List Addr} {H : Hp} : ∀ {ds : List D} {xs : List V} {bs : List Bool}, RpL η H ds xs → bools ds = some bs → xs = bs.map V.bl
  | [], xs, bs, r, h => by cases h; exact r
  | d :: ds, xs, bs, ⟨v, vs, ex, rv, rl⟩, h => by
    subst ex
    cases d <;> (unfold bools at h) <;> first | (cases h; done) | skip
    rename_i b
    cases hb : bools ds with
    | none => rw [hb] at h; cases h
    | some cs =>
      rw [hb] at h
      cases h
      rw [rp_bools rl hb, show v = V.bl b from rv]
      rfl
theorem bools_map {α : Type} (f : α → Bool) : ∀ l : List α, bools (l.map fun x => D.bl (f x)) = some (l.map f)
  | [] => rfl
  | x :: l => by
    show (bools (l.map fun x => D.bl (f x))).map (f x :: ·) = _
    rw [bools_map f l]
    rfl
@[simp] def fAll (_ : Sto) : List D → Option D
  | [.lst l] => (bools l).map fun bs => .bl (bs.all id)
  | _ => none
@[simp] def fAny (_ : Sto) : List D → Option D
  | [.lst l] => (bools l).map fun bs => .bl (bs.any id)
  | _ => none
theorem v_all (K : PySem.W.Frag) : VN (rAll K) fAll := fun E η B S H ds vs w r => by
  unfold fAll
  split
  · rename_i l
    obtain ⟨v, r2, rfl, ⟨a, xs, rfl, ha, ra⟩, rfl⟩ := r
    cases hb : bools l with
    | none => trivial
    | some bs => exact fun Q k => ⟨a, bs, rfl, .inl (.inl (by rw [← rp_bools ra hb]; exact (cold_of ha).1)), k _ η B H w.refl rfl⟩
  · trivial
theorem v_any (K : PySem.W.Frag) : VN (rAny K) fAny := fun E η B S H ds vs w r => by
  unfold fAny
  split
  · rename_i l
    obtain ⟨v, r2, rfl, ⟨a, xs, rfl, ha, ra⟩, rfl⟩ := r
    cases hb : bools l with
    | none => trivial
    | some bs => exact fun Q k => ⟨a, bs, rfl, .inl (.inl (by rw [← rp_bools ra hb]; exact (cold_of ha).1)), k _ η B H w.refl rfl⟩
  · trivial
end DL
set_option Elab.async false
set_option linter.all false
set_option maxRecDepth 100000
set_option maxHeartbeats 4000000
set_option autoImplicit false
namespace DL
open PySem PySem.Spec PyProof.Rows L2
/-! ### data as the library's data -/
mutual
def toPy : D → Option PyData
  | .non => some .none
  | .bl b => some (.bool b)
  | .int i => some (.int i)
  | .str s => some (.str s)
  | .lst l => (toPys l).map .list
  | .tup l => (toPys l).map .tuple
  | _ => none
def toPys : List D → Option (List PyData)
  | [] => some []
  | d :: ds => (toPy d).bind fun p => (toPys ds).map (p :: ·)
end
mutual
theorem rp_dp {K : PySem.W.Frag} {η : List Addr} {Hc H : Hp} (sm : Same Hc H) : ∀ (d : D) {v : V} {p : PyData}, Rp η Hc d v → toPy d = some p → Dp K H v p
  | .non, v, p, r, h => by cases h; obtain rfl := r; exact .non
  | .bl b, v, p, r, h => by cases h; obtain rfl := r; exact .bl b
  | .int i, v, p, r, h => by cases h; obtain rfl := r; exact .int i
  | .str s, v, p, r, h => by cases h; obtain rfl := r; exact .str s
  | .lst l, v, p, ⟨a, xs, e, ha, rl⟩, h => by
    subst e
    have h' : (toPys l).map PyData.list = some p := h
    cases e : toPys l with
    | none => rw [e] at h'; cases h'
    | some ps => rw [e] at h'; cases h'; exact .lst (.inl (.inl (sm _ _ ha))) (rps_dps sm l rl e)
  | .tup l, v, p, ⟨a, xs, e, ha, rl⟩, h => by
    subst e
    have h' : (toPys l).map PyData.tuple = some p := h
    cases e : toPys l with
    | none => rw [e] at h'; cases h'
    | some ps => rw [e] at h'; cases h'; exact .tup (.inl (.inl (sm _ _ ha))) (rps_dps sm l rl e)
  | .dic _, v, p, r, h => by cases h
  | .dit _, v, p, r, h => by cases h
  | .scr _, v, p, r, h => by cases h
  | .obj _ _, v, p, r, h => by cases h
  | .hot _, v, p, r, h => by cases h
  | .cls _, v, p, r, h => by cases h
  | .ty _, v, p, r, h => by cases h
  | .exn _ _ _, v, p, r, h => by cases h
theorem rps_dps {K : PySem.W.Frag} {η : List Addr} {Hc H : Hp} (sm : Same Hc H) : ∀ (l : List D) {xs : List V} {ps : List PyData}, RpL η Hc l xs → toPys l = some ps → DpAll K H xs ps
  | [], xs, ps, r, h => by cases h; rw [show xs = [] from r]; exact .nil
  | d :: ds, xs, ps, ⟨v, vs, e, rv, rl⟩, h => by
    subst e
    have h' : ((toPy d).bind fun p => (toPys ds).map (p :: ·)) = some ps := h
    cases e1 : toPy d with
    | none => rw [e1] at h'; cases h'
    | some p =>
      cases e2 : toPys ds with
      | none => rw [e1, e2] at h'; cases h'
      | some qs =>
        rw [e1, e2] at h'
        cases h'
        exact .cons (rp_dp sm d rv e1) (rps_dps sm ds rl e2)
end
/-- a hot list as a cold one -/
def cl (S : Sto) (d : D) : D := match vL S d with
  | some l => .lst l
  | none => d
@[simp] theorem cl_lst (S : Sto) (l : List D) : cl S (.lst l) = .lst l := rfl
@[simp] theorem cl_tup (S : Sto) (l : List D) : cl S (.tup l) = .tup l := rfl
@[simp] theorem cl_str (S : Sto) (l : Str) : cl S (.str l) = .str l := rfl
@[simp] theorem cl_int (S : Sto) (l : Int) : cl S (.int l) = .int l := rfl
@[simp] theorem cl_bl (S : Sto) (l : Bool) : cl S (.bl l) = .bl l := rfl
@[simp] theorem cl_non (S : Sto) : cl S .non = .non := rfl
@[simp] theorem cl_dic (S : Sto) (l : List (Key × D)) : cl S (.dic l) = .dic l := rfl
@[simp] theorem cl_obj (S : Sto) (C : Addr) (l : List (Str × D)) : cl S (.obj C l) = .obj C l := rfl
theorem rp_dpS {K : PySem.W.Frag} {η B : List Addr} {S : Sto} {H : Hp} (w : Wd η B S H) {d : D} {v : V} {p : PyData} (r : Rp η (cold B H) d v) (h : toPy (cl S d) = some p) : Dp K H v p := by
  unfold cl at h
  split at h
  · rename_i l hl
    obtain ⟨a, xs, rfl, ha, rl⟩ := w.seeL r hl
    have h' : (toPys l).map PyData.list = some p := h
    cases e : toPys l with
    | none => rw [e] at h'; cases h'
    | some ps => rw [e] at h'; cases h'; exact .lst (.inl (.inl ha)) (rps_dps cold_le l rl e)
  · exact rp_dp cold_le d r h
/-! ### == and != -/
def scD : D → Option V
  | .non => some .non
  | .bl b => some (.bl b)
  | .int i => some (.int i)
  | .str s => some (.str s)
  | _ => none
theorem sc_rp {η : List Addr} {H : Hp} {d : D} {u v : V} (h : scD d = some u) (r : Rp η H d v) : v = u := by
  cases d <;> first | (cases h; done) | (cases h; exact r)
theorem sc_cl {S : Sto} {η : List Addr} {H : Hp} {d : D} {u v : V} (h : scD (cl S d) = some u) (r : Rp η H d v) : v = u := by
  unfold cl at h
  split at h
  · cases h
  · exact sc_rp h r
def eqD (x y : D) : Option Bool := match scD x, scD y with
  | some u, some v => if scal u v = true then some (decide (u = v)) else (toPy x).bind fun p => (toPy y).bind fun q => if SeqAt.shaped p = true ∧ SeqAt.shaped q = true then some (PyData.eqv p q) else none
  | _, _ => (toPy x).bind fun p => (toPy y).bind fun q => if SeqAt.shaped p = true ∧ SeqAt.shaped q = true then some (PyData.eqv p q) else none
def opEq (S : Sto) (x y : D) : Option D := (eqD (cl S x) (cl S y)).map .bl
def opNe (S : Sto) (x y : D) : Option D := (eqD (cl S x) (cl S y)).map fun b => .bl (!b)
def rEqA (K : PySem.W.Frag) : R2 := fun x y H Q => rEq x y H Q ∨ rEqD K x y H Q
def rNeA (K : PySem.W.Frag) : R2 := fun x y H Q => rNe x y H Q ∨ rNeD K x y H Q
theorem or_eq {X : Cx} {K : PySem.W.Frag} (hu : X.A.units + 64 < cLine) (hK : X.K = K := by rfl) : OpR X (compareOp .Eq) (rEqA K) := by
  subst hK
  exact OpR.or op_eq (op_eqD hu)
theorem or_ne {X : Cx} {K : PySem.W.Frag} (hu : X.A.units + 64 < cLine) (hK : X.K = K := by rfl) : OpR X (compareOp .NotEq) (rNeA K) := by
  subst hK
  exact OpR.or op_ne (op_neD hu)
theorem eqD_two {x y : D} {b : Bool} (h : eqD x y = some b) : (∃ u v, scD x = some u ∧ scD y = some v ∧ scal u v = true ∧ b = decide (u = v)) ∨
    ∃ p q, toPy x = some p ∧ toPy y = some q ∧ SeqAt.shaped p = true ∧ SeqAt.shaped q = true ∧ b = PyData.eqv p q := by
  have deep : ∀ {b}, ((toPy x).bind fun p => (toPy y).bind fun q => if SeqAt.shaped p = true ∧ SeqAt.shaped q = true then some (PyData.eqv p q) else none) = some b →
      ∃ p q, toPy x = some p ∧ toPy y = some q ∧ SeqAt.shaped p = true ∧ SeqAt.shaped q = true ∧ b = PyData.eqv p q := by
    intro b h
    cases e1 : toPy x with
    | none => rw [e1] at h; cases h
    | some p =>
      cases e2 : toPy y with
      | none => rw [e1, e2] at h; cases h
      | some q =>
        rw [e1, e2] at h
        have h' : (if SeqAt.shaped p = true ∧ SeqAt.shaped q = true then some (PyData.eqv p q) else none) = some b := h
        split at h'
        · rename_i c; cases h'; exact ⟨p, q, rfl, rfl, c.1, c.2, rfl⟩
        · cases h'
  unfold eqD at h
  split at h
  · rename_i u v h1 h2
    split at h
    · rename_i c; cases h; exact .inl ⟨u, v, h1, h2, c, rfl⟩
    · exact .inr (deep h)
  · exact .inr (deep h)
theorem v_eq (K : PySem.W.Frag) : V2 (rEqA K) opEq := fun E η B S H x y u v w rx ry => by
  unfold opEq
  cases h : eqD (cl S x) (cl S y) with
  | none => trivial
  | some b =>
    intro Q k
    rcases eqD_two h with ⟨u', v', h1, h2, c, e⟩ | ⟨p, q, h1, h2, c1, c2, e⟩
    · obtain rfl := sc_cl h1 rx
      obtain rfl := sc_cl h2 ry
      exact .inl ⟨c, k _ η B H w.refl (by rw [e]; rfl)⟩
    · exact .inr ⟨p, q, rp_dpS w rx h1, rp_dpS w ry h2, c1, c2, k _ η B H w.refl (by rw [e]; rfl)⟩
theorem v_ne (K : PySem.W.Frag) : V2 (rNeA K) opNe := fun E η B S H x y u v w rx ry => by
  unfold opNe
  cases h : eqD (cl S x) (cl S y) with
  | none => trivial
  | some b =>
    intro Q k
    rcases eqD_two h with ⟨u', v', h1, h2, c, e⟩ | ⟨p, q, h1, h2, c1, c2, e⟩
    · obtain rfl := sc_cl h1 rx
      obtain rfl := sc_cl h2 ry
      exact .inl ⟨c, k _ η B H w.refl (by rw [e]; rfl)⟩
    · exact .inr ⟨p, q, rp_dpS w rx h1, rp_dpS w ry h2, c1, c2, k _ η B H w.refl (by rw [e]; rfl)⟩
@[simp] theorem eqD_str (a b : Str) : eqD (.str a) (.str b) = some (decide (a = b)) := by simp [eqD, scD, scal]
@[simp] theorem eqD_int (a b : Int) : eqD (.int a) (.int b) = some (decide (a = b)) := by simp [eqD, scD, scal]
/-! ### in, not in a list or a tuple (data of any depth) -/
def isNoneD : D → Bool
  | .non => true
  | _ => false
def opIsN (_ : Sto) : D → D → Option D
  | x, .non => some (.bl (isNoneD x))
  | _, _ => none
def opNotN (_ : Sto) : D → D → Option D
  | x, .non => some (.bl (!isNoneD x))
  | _, _ => none
theorem isN_rp {η : List Addr} {H : Hp} {d : D} {v : V} (r : Rp η H d v) : decide (v = V.non) = isNoneD d := by
  cases d <;> first | (obtain rfl := r; rfl) | (obtain ⟨a, xs, rfl, _⟩ := r; rfl) | (obtain ⟨a, rfl, _⟩ := r; rfl) | (obtain ⟨a, dx, xs, rfl, _⟩ := r; rfl)
theorem v_isN : V2 (fun x y H Q => y = .non ∧ Q (.bl (decide (x = .non))) H) opIsN := fun E η B S H x y u v w rx ry => by
  unfold opIsN
  split
  · obtain rfl := ry
    exact fun Q k => ⟨rfl, k _ η B H w.refl (by rw [isN_rp rx]; rfl)⟩
  · trivial
theorem v_notN : V2 (fun x y H Q => y = .non ∧ Q (.bl (!decide (x = .non))) H) opNotN := fun E η B S H x y u v w rx ry => by
  unfold opNotN
  split
  · obtain rfl := ry
    exact fun Q k => ⟨rfl, k _ η B H w.refl (by rw [isN_rp rx]; rfl)⟩
  · trivial
/-! ### numbers -/
def opMul (_ : Sto) : D → D → Option D
  | .int i, .int j => if (-(2 ^ 64) < i ∧ i < 2 ^ 64) ∨ (-(2 ^ 64) < j ∧ j < 2 ^ 64) then some (.int (i * j)) else none
  | _, _ => none
def opMod (_ : Sto) : D → D → Option D
  | .int i, .int j => if 0 < j then some (.int (i % j)) else none
  | _, _ => none
def opFdiv (_ : Sto) : D → D → Option D
  | .int i, .int j => if 0 < j ∧ j < 1073741824 then some (.int (i / j)) else none
  | _, _ => none
theorem v_I {C : Int → Int → Prop} {g : Int → Int → V} {f : Sto → D → D → Option D} (h : ∀ S x y z, f S x y = some z → ∃ i j, x = .int i ∧ y = .int j ∧ C i j ∧ ∀ η H, Rp η H z (g i j)) : V2 (rI C g) f := fun E η B S H x y u v w rx ry => by
  cases e : f S x y with
  | none => trivial
  | some z =>
    obtain ⟨i, j, rfl, rfl, c, r⟩ := h S x y z e
    obtain rfl := rx
    obtain rfl := ry
    exact fun Q k => ⟨i, j, rfl, rfl, c, k _ η B H w.refl (r _ _)⟩
theorem v_mul : V2 (rI CMul fun i j => .int (i * j)) opMul := v_I fun S x y z h => by
  unfold opMul at h
  split at h
  · split at h
    · rename_i c; cases h; exact ⟨_, _, rfl, rfl, c, fun _ _ => rfl⟩
    · cases h
  · cases h
theorem v_mod : V2 (rI (fun _ j => 0 < j) fun i j => .int (i % j)) opMod := v_I fun S x y z h => by
  unfold opMod at h
  split at h
  · split at h
    · rename_i c; cases h; exact ⟨_, _, rfl, rfl, c, fun _ _ => rfl⟩
    · cases h
  · cases h
theorem v_fdiv : V2 (rI CDiv fun i j => .int (i / j)) opFdiv := v_I fun S x y z h => by
  unfold opFdiv at h
  split at h
  · split at h
    · rename_i c; cases h; exact ⟨_, _, rfl, rfl, c, fun _ _ => rfl⟩
    · cases h
  · cases h
section
variable {X : Cx} {E : EK} {e a b : Expr} {es : List Expr} {pos p apos cpos : Pos} {te ta tb : TE} {tas : TA} {Fa Fb F : Env → Sto → Res D} {Fs : Env → Sto → Res (List D)}
@[simp] def fNeg (F : Env → Sto → Res D) : Env → Sto → Res D := fun ρ S => (F ρ S).bind fun d S1 => match d with
  | .int i => .ok (.int (-i)) S1
  | _ => .bad
theorem de_neg (h : DE X E a ta Fa) : DE X E (.UnaryOp .USub a pos) (tUn (rU fun i => .int (-i)) ta) (fNeg Fa) :=
  ⟨pe_un un_neg h.1, fun η B S σ ρ H w s => Ev.bind (T := ta σ H) (T' := fun x H1 Q => ∃ i, x = V.int i ∧ Q (V.int (-i)) H1) (h.2 η B S σ ρ H w s) fun d S1 v η1 B1 H1 n1 r1 => by
    cases d <;> first | trivial | (obtain rfl := r1; exact fun Q k => ⟨_, rfl, k _ η1 B1 H1 n1.wd.refl rfl⟩)⟩
/-! ### subscripts -/
def opIx (S : Sto) (x y : D) : Option D := match x, y with
  | .tup l, .int i => atI l i
  | .str z, .int i => if z.length ≤ 100000 then (atI z.cps.toList i).map fun c => .str ⟨#[c]⟩ else none
  | .scr l, .int i => (atI l i).map .int
  | x, .int i => (vL S x).bind fun l => atI l i
  | _, _ => none
theorem atI_rp {η : List Addr} {H : Hp} {ds : List D} {xs : List V} {i : Int} {d : D} (r : RpL η H ds xs) (h : atI ds i = some d) : ∃ v, atI xs i = some v ∧ Rp η H d v := by
  unfold atI at h ⊢
  rw [r.length]
  cases e : ixN ds.length i with
  | none => rw [e] at h; cases h
  | some j =>
    rw [e] at h
    exact r.got h
def rIxA (K : PySem.W.Frag) : R2 := fun x y H Q => rIxL K x y H Q ∨ rIxT K x y H Q ∨ rIxS x y H Q
theorem ix_any : IxR X (rIxA X.K) := by
  intro value slice pins s σ H x y v u Q I rx ry h hs
  rcases h with h | h | h
  · exact ix_list value slice pins s σ H x y v u Q I rx ry h hs
  · exact ix_tup value slice pins s σ H x y v u Q I rx ry h hs
  · exact ix_str value slice pins s σ H x y v u Q I rx ry h hs
theorem v_ix (K : PySem.W.Frag) : V2 (rIxA K) opIx := fun E η B S H x y u v w rx ry => by
  unfold opIx
  split
  · rename_i l i
    obtain ⟨q, xs, rfl, hq, rl⟩ := rx
    obtain rfl := ry
    cases e : atI l i with
    | none => trivial
    | some d =>
      obtain ⟨z, e1, rz⟩ := atI_rp rl e
      exact fun Q k => .inr (.inl ⟨q, xs, i, z, rfl, rfl, .inl (.inl (cold_of hq).1), e1, k _ _ _ H w.refl rz⟩)
  · rename_i z i
    obtain rfl := rx
    obtain rfl := ry
    split
    · rename_i hz
      cases e : atI z.cps.toList i with
      | none => trivial
      | some c => exact fun Q k => .inr (.inr ⟨z, i, c, rfl, rfl, size_ok hz, e, k _ _ _ H w.refl rfl⟩)
    · trivial
  · rename_i l i
    obtain ⟨a, o, rfl, ha⟩ := rx
    obtain rfl := ry
    cases e : atI l i with
    | none => trivial
    | some c =>
      refine fun Q k => .inl ⟨a, _, i, .int c, rfl, rfl, .inl (.inr ⟨o, (cold_of ha).1⟩), ?_, k _ _ _ H w.refl rfl⟩
      unfold atI at e ⊢
      rw [List.length_map]
      cases e2 : ixN l.length i with
      | none => rw [e2] at e; cases e
      | some j =>
        rw [e2] at e
        have e' : l[j]? = some c := e
        show (l.map V.int)[j]? = _
        rw [List.getElem?_map, e']
        rfl
  · rename_i i _ _ _
    obtain rfl := ry
    cases hx : vL S x with
    | none => trivial
    | some l =>
      obtain ⟨q, xs, rfl, hq, rl⟩ := w.seeL rx hx
      show EvD η B E _ H (lift (atI l i) S)
      cases e : atI l i with
      | none => trivial
      | some d =>
        obtain ⟨z, e1, rz⟩ := atI_rp rl e
        exact fun Q k => .inl ⟨q, xs, i, z, rfl, rfl, .inl (.inl hq), e1, k _ _ _ H w.refl rz⟩
  · trivial
theorem de_ix {K : PySem.W.Frag} (ha : DE X E a ta Fa) (hb : DE X E b tb Fb) (hs : PlainIx b := by exact fun _ _ => rfl) (hK : X.K = K := by rfl) : DE X E (.Subscript a b pos) (tOp (rIxA K) ta tb) (bin opIx Fa Fb) := by
  subst hK
  exact ⟨pe_ix ix_any ha.1 hb.1 hs, fun η B S σ ρ H w s => ev_two (v_ix X.K) w s ha.2 hb.2⟩
/-! ### slices -/
def SoO (E : EK) (t : TO) (F : Env → Sto → Res (Option Int)) : Prop := ∀ η B S σ ρ H, Wd η B S H → Sl η (cold B H) σ ρ → Ev (fun _ _ (o o' : Option Int) => o = o') η B (E σ) (t σ H) H (F ρ S)
def DO (X : Cx) (E : EK) (o : Option Expr) (t : TO) (F : Env → Sto → Res (Option Int)) : Prop := PO X o t ∧ SoO E t F
@[simp] def fNoPart : Env → Sto → Res (Option Int) := fun _ S => .ok none S
theorem do_none : DO X E none tNoPart fNoPart := ⟨po_none, fun η B S σ ρ H w s Q k => k none η B H w.refl rfl⟩
@[simp] def fPart (F : Env → Sto → Res D) : Env → Sto → Res (Option Int) := fun ρ S => (F ρ S).bind fun d S1 => match d with
  | .int i => .ok (some i) S1
  | _ => .bad
theorem do_some (h : DE X E a ta Fa) : DO X E (some a) (tPart ta) (fPart Fa) :=
  ⟨po_some h.1, fun η B S σ ρ H w s => Ev.bind (T := ta σ H) (T' := fun x H1 Q => ∃ i, x = V.int i ∧ Q (some i) H1) (h.2 η B S σ ρ H w s) fun d S1 v η1 B1 H1 n1 r1 => by
    cases d <;> first | trivial | (obtain rfl := r1; exact fun Q k => ⟨_, rfl, k _ η1 B1 H1 n1.wd.refl rfl⟩)⟩
def cutL {α : Type} (xs : List α) (lo hi : Option Int) : List α := (xs.drop (HT.sIx xs.length 0 lo)).take (HT.sIx xs.length xs.length hi - HT.sIx xs.length 0 lo)
theorem cutL_rp {η : List Addr} {H : Hp} {ds : List D} {xs : List V} {lo hi : Option Int} (r : RpL η H ds xs) : RpL η H (cutL ds lo hi) (cutV xs lo hi) := by
  unfold cutL cutV
  rw [r.length]
  exact (r.drop _).take _
def opCut (S : Sto) (x : D) (lo hi : Option Int) : Option D := match x with
  | .tup l => some (.tup (cutL l lo hi))
  | .str z => if z.length ≤ 100000 then some (.str (cutS z lo hi)) else none
  | x => (vL S x).map fun l => .lst (cutL l lo hi)
def rSlX (K : PySem.W.Frag) : V → Option Int → Option Int → Hp → VK → Prop := fun x lo hi H Q => rSlL K x lo hi H Q ∨ rSlA K x lo hi H Q ∨ rSlS x lo hi H Q
theorem sl_any : SlR X (rSlX X.K) := SlR.or sl_list (SlR.or sl_tupA sl_str)
theorem cutL_all {α : Type} {xs : List α} {lo hi : Option Int} (h1 : HT.sIx xs.length 0 lo = 0) (h2 : HT.sIx xs.length xs.length hi = xs.length) : cutL xs lo hi = xs := by
  unfold cutL
  rw [h1, h2]
  simp
theorem ev_cut {E : XK} (K : PySem.W.Frag) {η B : List Addr} {S : Sto} {H : Hp} {x : D} {v : V} {lo hi : Option Int} (w : Wd η B S H) (r : Rp η (cold B H) x v) : EvD η B E (fun Q => rSlX K v lo hi H Q) H (lift (opCut S x lo hi) S) := by
  unfold opCut
  split
  · obtain ⟨q, xs, rfl, hq, rl⟩ := r
    refine fun Q k => .inr (.inl ⟨q, xs, rfl, .inl (.inl (cold_of hq).1), fun ⟨h1, h2⟩ => ?_, fun _ p hp => k _ _ _ _ (w.new hp) ⟨p, _, rfl, w.cold_new hp, (w.new hp).rpL (cutL_rp rl)⟩⟩)
    rw [rl.length] at h1 h2
    rw [cutL_all h1 h2] at k
    exact k _ _ _ H w.refl ⟨q, xs, rfl, hq, rl⟩
  · rename_i z
    obtain rfl := r
    split
    · rename_i hz
      exact fun Q k => .inr (.inr ⟨z, rfl, size_ok hz, k _ _ _ H w.refl rfl⟩)
    · trivial
  · cases hx : vL S x with
    | none => trivial
    | some l =>
      obtain ⟨q, xs, rfl, hq, rl⟩ := w.seeL r hx
      exact fun Q k => .inl ⟨q, xs, rfl, .inl (.inl hq), fun p hp => k _ _ _ _ (w.new hp) ⟨p, _, rfl, w.cold_new hp, (w.new hp).rpL (cutL_rp rl)⟩⟩
@[simp] def fCut (F : Env → Sto → Res D) (L U : Env → Sto → Res (Option Int)) : Env → Sto → Res D := fun ρ S => (F ρ S).bind fun d S1 => (L ρ S1).bind fun lo S2 => (U ρ S2).bind fun hi S3 => lift (opCut S3 d lo hi) S3
theorem de_slice {K : PySem.W.Frag} {lo hi : Option Expr} {tl th : TO} {L U : Env → Sto → Res (Option Int)} {p2 : Pos} (ha : DE X E a ta Fa) (hl : DO X E lo tl L) (hh : DO X E hi th U) (hK : X.K = K := by rfl) : DE X E (.Subscript a (.Slice lo hi none p2) pos) (tSl (rSlX K) ta tl th) (fCut Fa L U) := by
  subst hK
  refine ⟨pe_slice sl_any ha.1 hl.1 hh.1, fun η B S σ ρ H w s => ?_⟩
  refine Ev.bind (T := ta σ H) (T' := fun x H1 Q => tl σ H1 fun l H2 => th σ H2 fun u H3 => rSlX X.K x l u H3 Q) (ha.2 η B S σ ρ H w s) fun d S1 v η1 B1 H1 n1 r1 => ?_
  refine Ev.bind (T := tl σ H1) (T' := fun l H2 Q => th σ H2 fun u H3 => rSlX X.K v l u H3 Q) (hl.2 η1 B1 S1 σ ρ H1 n1.wd (n1.sl s)) fun l S2 l' η2 B2 H2 n2 r2 => ?_
  subst r2
  refine Ev.bind (T := th σ H2) (T' := fun u H3 Q => rSlX X.K v l u H3 Q) (hh.2 η2 B2 S2 σ ρ H2 n2.wd (n2.sl (n1.sl s))) fun u S3 u' η3 B3 H3 n3 r3 => ?_
  subst r3
  exact ev_cut X.K n3.wd (n3.rp (n2.rp r1))
/-! ### texts -/
/-- a method of a text, one argument -/
@[simp] def mS1 (f : Sto → Str → D → Option D) (Fa Fb : Env → Sto → Res D) : Env → Sto → Res D := fun ρ S => (Fa ρ S).bind fun x S1 => match x with
  | .str z => (Fb ρ S1).bind fun y S2 => lift (f S2 z y) S2
  | _ => .bad
theorem so_m1 {r : V → List V → Hp → VK → Prop} {f : Sto → Str → D → Option D} (hr : ∀ (E : XK) (η B : List Addr) (S : Sto) (H : Hp) (z : Str) (y : D) (v : V), Wd η B S H → Rp η (cold B H) y v → EvD η B E (r (.str z) [v] H) H (lift (f S z y) S))
    (ha : SoE E ta Fa) (hb : SoE E tb Fb) : SoE E (tM1 r ta tb) (mS1 f Fa Fb) := fun η B S σ ρ H w s => by
  refine Ev.bind (T := ta σ H) (T' := fun x H1 Q => (∃ a, x = V.str a) ∧ tb σ H1 fun y H2 => r x [y] H2 Q) (ha η B S σ ρ H w s) fun x S1 u η1 B1 H1 n1 r1 => ?_
  cases x <;> first | trivial | skip
  rename_i z
  obtain rfl := r1
  have q := Ev.bind (R := fun η Hc d v => Rp η Hc d v) (R' := fun η Hc d v => Rp η Hc d v) (T := tb σ H1) (T' := fun y H2 Q => r (V.str z) [y] H2 Q) (k := fun y S2 => lift (f S2 z y) S2) (hb η1 B1 S1 σ ρ H1 n1.wd (n1.sl s)) fun y S2 v η2 B2 H2 n2 r2 => hr (E σ) η2 B2 S2 H2 z y v n2.wd r2
  show EvD η1 B1 (E σ) _ H1 ((Fb ρ S1).bind fun y S2 => lift (f S2 z y) S2)
  revert q
  generalize ((Fb ρ S1).bind fun y S2 => lift (f S2 z y) S2) = rr
  intro q
  cases rr with
  | bad => trivial
  | ok d S' => exact fun Q k => ⟨⟨z, rfl⟩, q Q k⟩
  | exc C fs S' => exact fun Q k => ⟨⟨z, rfl⟩, q Q k⟩
def opSplit (_ : Sto) (a : Str) : D → Option D
  | .str b => if b.length ≠ 0 ∧ a.length ≤ 100000 then some (.lst ((Txt.split a b).map .str)) else none
  | _ => none
theorem de_split (ha : DE X E a ta Fa) (hb : DE X E b tb Fb) (hs : starEach [b] X.env = [(false, eval b X.env)] := by rfl) (hbase : attributeBase a "split" X.env (eval a X.env) = eval a X.env := by rfl) (hline : (apos.endLine == pos.line) = true := by rfl) :
    DE X E (.Call (.Attribute a "split" apos) [b] [] pos) (tM1 (fun x xs H Q => ∃ a b, x = V.str a ∧ xs = [V.str b] ∧ (b.length == 0) = false ∧ a.length + 2 ≤ sizeLine ∧ rNewStrs (Txt.split a b) H Q) ta tb) (mS1 opSplit Fa Fb) := by
  refine ⟨pe_split ha.1 hb.1 hs hbase hline, so_m1 (fun E η B S H z y v w r => ?_) ha.2 hb.2⟩
  unfold opSplit
  split
  · rename_i b'
    obtain rfl := r
    split
    · rename_i c
      exact fun Q k => ⟨_, b', rfl, rfl, by simpa using c.1, Nat.le_trans (Nat.add_le_add_right c.2 2) (by decide), fun p hp => k _ _ _ _ (w.new hp) ⟨p, _, rfl, w.cold_new hp, RpL.of_strs _⟩⟩
    · trivial
  · trivial
def strsOf : List D → Option (List Str)
  | [] => some []
  | .str s :: r => (strsOf r).map (s :: ·)
  | _ => none
@[simp] theorem strsOf_map : ∀ l : List Str, strsOf (l.map D.str) = some l
  | [] => rfl
  | x :: l => by
    show (strsOf (l.map D.str)).map (x :: ·) = _
    rw [strsOf_map l]
    rfl
theorem rp_strs {η : List Addr} {H : Hp} : ∀ {ds : List D} {xs : List V} {ss : List Str}, RpL η H ds xs → strsOf ds = some ss → xs = ss.map V.str
  | [], xs, bs, r, h => by cases h; exact r
  | d :: ds, xs, bs, ⟨v, vs, ex, rv, rl⟩, h => by
    subst ex
    cases d <;> (unfold strsOf at h) <;> first | (cases h; done) | skip
    rename_i b
    cases hb : strsOf ds with
    | none => rw [hb] at h; cases h
    | some cs =>
      rw [hb] at h
      cases h
      rw [rp_strs rl hb, show v = V.str b from rv]
      rfl
def joinOk (a : Str) (ss : List Str) : Bool := decide ((ss.map (·.length)).sum + ss.length * a.length ≤ 1000000)
def opJoin (S : Sto) (a : Str) (d : D) : Option D := match d with
  | .tup l => (strsOf l).bind fun ss => if joinOk a ss = true then some (.str (Txt.join a ss)) else none
  | d => (vL S d).bind fun l => (strsOf l).bind fun ss => if joinOk a ss = true then some (.str (Txt.join a ss)) else none
theorem de_join {K : PySem.W.Frag} (ha : DE X E a ta Fa) (hb : DE X E b tb Fb) (hs : starEach [b] X.env = [(false, eval b X.env)] := by rfl) (hbase : attributeBase a "join" X.env (eval a X.env) = eval a X.env := by rfl) (hline : (apos.endLine == pos.line) = true := by rfl) (hK : X.K = K := by rfl) :
    DE X E (.Call (.Attribute a "join" apos) [b] [] pos) (tM1 (fun x xs H Q => ∃ a p, ∃ ys : List Str, x = V.str a ∧ xs = [V.ref p] ∧ (SqL K H p (ys.map V.str) ∨ SqT K H p (ys.map V.str)) ∧ (ys.map (·.length)).sum + ys.length * a.length ≤ 16777216 ∧ Q (V.str (Txt.join a ys)) H) ta tb) (mS1 opJoin Fa Fb) := by
  subst hK
  refine ⟨pe_join ha.1 hb.1 hs hbase hline, so_m1 (fun E η B S H z y v w r => ?_) ha.2 hb.2⟩
  unfold opJoin
  split
  · rename_i l
    obtain ⟨q, xs, rfl, hq, rl⟩ := r
    cases e : strsOf l with
    | none => trivial
    | some ss =>
      show EvD η B E _ H (lift (if joinOk z ss = true then some (D.str (Txt.join z ss)) else none) S)
      split
      · rename_i c
        have c' := of_decide_eq_true c
        exact fun Q k => ⟨z, q, ss, rfl, rfl, .inr (.inl (.inl (by rw [← rp_strs rl e]; exact (cold_of hq).1))), by omega, k _ _ _ H w.refl rfl⟩
      · trivial
  · cases hx : vL S y with
    | none => trivial
    | some l =>
      obtain ⟨q, xs, rfl, hq, rl⟩ := w.seeL r hx
      cases e : strsOf l with
      | none => simp only [Option.bind_some, e]; trivial
      | some ss =>
        simp only [Option.bind_some, e]
        split
        · rename_i c
          have c' := of_decide_eq_true c
          exact fun Q k => ⟨z, q, ss, rfl, rfl, .inl (.inl (.inl (by rw [← rp_strs rl e]; exact hq))), by omega, k _ _ _ H w.refl rfl⟩
        · trivial
end
/-! ### tuple(..), list(..), abs, int, min, max, sorted of texts -/
theorem cr_tupleK {X : Cx} {K : PySem.W.Frag} (hK : X.K = K := by rfl) : CallR X (.type "tuple") (fun xs H Q => ∃ p ys, xs = [V.ref p] ∧ ((SqL K H p ys ∧ ∀ l, H l = none → Q (V.ref l) (upd H l (.tup ys))) ∨ (SqT K H p ys ∧ Q (V.ref p) H))) := by
  subst hK
  exact call_tuple_of
theorem cr_listK {X : Cx} {K : PySem.W.Frag} (hK : X.K = K := by rfl) : CallR X (.type "list") (fun xs H Q => ∃ p ys, xs = [V.ref p] ∧ (SqL K H p ys ∨ SqT K H p ys) ∧ ∀ l, H l = none → Q (V.ref l) (upd H l (.lst ys))) := by
  subst hK
  exact call_list_of
def fTuple (S : Sto) : List D → Option D
  | [.tup l] => some (.tup l)
  | [x] => (vL S x).map .tup
  | _ => none
def fList (S : Sto) : List D → Option D
  | [.tup l] => some (.lst l)
  | [x] => (vL S x).map .lst
  | _ => none
theorem v_tuple (K : PySem.W.Frag) : VN (fun xs H Q => ∃ p ys, xs = [V.ref p] ∧ ((SqL K H p ys ∧ ∀ l, H l = none → Q (V.ref l) (upd H l (.tup ys))) ∨ (SqT K H p ys ∧ Q (V.ref p) H))) fTuple := fun E η B S H ds vs w r => by
  unfold fTuple
  split
  · obtain ⟨v, r2, rfl, ⟨a, xs, rfl, ha, ra⟩, rfl⟩ := r
    exact fun Q k => ⟨a, xs, rfl, .inr ⟨.inl (.inl (cold_of ha).1), k _ _ _ H w.refl ⟨a, xs, rfl, ha, ra⟩⟩⟩
  · rename_i x _
    obtain ⟨v, r2, rfl, rx, rfl⟩ := r
    cases hx : vL S x with
    | none => trivial
    | some l =>
      obtain ⟨a, xs, rfl, ha, ra⟩ := w.seeL rx hx
      exact fun Q k => ⟨a, xs, rfl, .inl ⟨.inl (.inl ha), fun p hp => k _ _ _ _ (w.new hp) ⟨p, _, rfl, w.cold_new hp, (w.new hp).rpL ra⟩⟩⟩
  · trivial
theorem v_list (K : PySem.W.Frag) : VN (fun xs H Q => ∃ p ys, xs = [V.ref p] ∧ (SqL K H p ys ∨ SqT K H p ys) ∧ ∀ l, H l = none → Q (V.ref l) (upd H l (.lst ys))) fList := fun E η B S H ds vs w r => by
  unfold fList
  split
  · obtain ⟨v, r2, rfl, ⟨a, xs, rfl, ha, ra⟩, rfl⟩ := r
    exact fun Q k => ⟨a, xs, rfl, .inr (.inl (.inl (cold_of ha).1)), fun p hp => k _ _ _ _ (w.new hp) ⟨p, _, rfl, w.cold_new hp, (w.new hp).rpL ra⟩⟩
  · rename_i x _
    obtain ⟨v, r2, rfl, rx, rfl⟩ := r
    cases hx : vL S x with
    | none => trivial
    | some l =>
      obtain ⟨a, xs, rfl, ha, ra⟩ := w.seeL rx hx
      exact fun Q k => ⟨a, xs, rfl, .inl (.inl (.inl ha)), fun p hp => k _ _ _ _ (w.new hp) ⟨p, _, rfl, w.cold_new hp, (w.new hp).rpL ra⟩⟩
  · trivial
end DL
set_option Elab.async false
set_option linter.all false
set_option maxRecDepth 100000
set_option maxHeartbeats 4000000
set_option autoImplicit false
namespace DL
open PySem PySem.Spec PyProof.Rows L2
/-! ### an own error over ValueError: its __init__ -/
/-- self.f1 = a1, self.f2 = a2 ..: the fields, the last one first -/
def fldV (fs : List Str) (ys : List V) : List (Str × V) := (fs.zip ys).reverse
def spInit (C : Addr) (fs : List Str) : Sp := fun vs H Q _ => ∃ a ys, vs = .ref a :: ys ∧ ys.length = fs.length ∧ H a = some (exo a C none) ∧
  ∀ dx, H dx = none → dx ≠ a → Q .non (upd (upd H dx (exd dx (fldV fs ys))) a (exo a C (some dx)))
/-- what is known of the class x at C, its __init__ at fI -/
structure XCls (P : Program) (w : World) (K : PySem.W.Frag) (mg : Str → Option Value) (base : Heap) (x : Str) (C : Addr) (fs : List Str) : Prop where
  oex : OexC K C
  gC : mg x = some (.ref C)
  ini : ∃ fI fd, PySem.W.findIn K (.ref C) "__init__" = some (some (.ref fI)) ∧ PySem.W.typeIn K (.ref fI) = some (.type "function") ∧ FnOk P w K mg base CX0 1 fI fd ("self" :: fs) (spInit C fs) ∧ Binds K fd ("self" :: fs) []
  one : fs.length ≤ 2
def fldD (fs : List Str) (ds : List D) : List (Str × D) := (fs.zip ds).reverse
theorem RpF.snoc {η : List Addr} {H : Hp} : ∀ {l : List (Str × D)} {ws : List (Str × V)} {f : Str} {d : D} {v : V}, RpF η H l ws → Rp η H d v → RpF η H (l ++ [(f, d)]) (ws ++ [(f, v)])
  | [], _, f, d, v, r, q => by rw [show _ = [] from r]; exact ⟨v, [], rfl, q, rfl⟩
  | (g, e) :: l, _, f, d, v, ⟨u, us, eu, r, t⟩, q => by rw [eu]; exact ⟨u, _, rfl, r, RpF.snoc t q⟩
theorem rp_fld {η : List Addr} {H : Hp} : ∀ {fs : List Str} {ds : List D} {ys : List V}, RpL η H ds ys → RpF η H (fldD fs ds) (fldV fs ys)
  | [], ds, ys, r => by unfold fldD fldV; simp [RpF]
  | f :: fs, [], ys, r => by rw [show ys = [] from r]; unfold fldD fldV; simp [RpF]
  | f :: fs, d :: ds, _, ⟨v, vs, e, rv, rl⟩ => by
    subst e
    have ih := rp_fld (fs := fs) rl
    unfold fldD fldV at ih ⊢
    rw [List.zip_cons_cons, List.zip_cons_cons, List.reverse_cons, List.reverse_cons]
    exact ih.snoc rv
section
variable {X : Cx} {E : EK} {e : Expr} {es : List Expr} {tas : TA} {Fs : Env → Sto → Res (List D)} {pos p pos2 : Pos}
@[simp] def fRaise (C : Addr) (fs : List Str) (F : Env → Sto → Res (List D)) : Env → Sto → Flow := fun ρ S => (F ρ S).flow ρ fun ds S1 => if ds.length = fs.length ∧ fs.length ≤ 2 then .ex C (fldD fs ds) ρ S1 else .bad
theorem so_raise {C : Addr} {fs : List Str} (h : SoA E tas Fs) : SoS E (fun _ σ H => tMkO C (spInit C fs) [] tas σ H fun cls d H' => E σ cls d H') (fRaise C fs Fs) := fun η B S σ ρ H w s => by
  refine Sv.of s (T := tas σ H) (T' := fun vs H1 D => vs.length ≤ 1000 ∧ ∀ a, H1 a = none → spInit C fs (.ref a :: (vs ++ [])) (upd H1 a (exo a C none))
    (fun v H2 => v = .non ∧ ∃ (d : Addr) (fs : List (Str × V)), H2 a = some (exo a C (some d)) ∧ H2 d = some (exd d fs) ∧ H1 d = none ∧ E σ (.ref C) (some d) (upd (del H2 a) d (.xd fs))) (fun _ _ _ => False)) (h η B S σ ρ H w s) fun ds S1 vs η1 B1 H1 n1 r1 => ?_
  split
  · rename_i c
    intro D k
    have hl : vs.length = fs.length := by rw [r1.length]; exact c.1
    refine ⟨by omega, fun a ha => ⟨a, vs, by rw [List.append_nil], hl, upd_same, fun dx hdx hne => ⟨rfl, dx, fldV fs vs, upd_same, ?_, ?_, ?_⟩⟩⟩
    · rw [upd_ne hne, upd_same]
    · rw [upd_ne hne] at hdx; exact hdx
    · have hdx1 : H1 dx = none := by rw [upd_ne hne] at hdx; exact hdx
      have same : Same H1 (upd (del (upd (upd (upd H1 a (exo a C none)) dx (exd dx (fldV fs vs))) a (exo a C (some dx))) a) dx (.xd (fldV fs vs))) := fun b o eb => by
        rw [upd_ne (ne_of_none eb hdx1), del_ne (ne_of_none eb ha), upd_ne (ne_of_none eb ha), upd_ne (ne_of_none eb hdx1), upd_ne (ne_of_none eb ha)]
        exact eb
      have n2 := n1.wd.grow same
      exact k σ dx _ _ _ _ n2 hdx1 (cold_in upd_same (n1.wd.fresh hdx1)) (rp_fld (n2.rpL r1)) (n2.sl (n1.sl s))
  · trivial
theorem ds_raise {x : Str} {C : Addr} {fs : List Str} {W : WX} (xc : XCls X.prog X.w X.K X.mg X.base x C fs) (hr : Room 2 X.A) (tk : Takes X W) (hW : W = fun cls d σ H => E σ cls d H) (ha : DA X E (e :: es) tas Fs) (hc : X.calm = true := by rfl) (hg : Gl X x := by rfl)
    (hdb : (x == ("__debug__" : Str)) = false := by decide) (he : starEach (e :: es) X.env = (false, eval e X.env) :: starEach es X.env := by rfl) (hpl : (backTo pos (starEach es X.env)).any (·.1) = false := by rfl) :
    DS X E (.Raise (some (.Call (.Name x p) (e :: es) [] pos)) none pos2) (fun _ σ H => tMkO C (spInit C fs) [] tas σ H fun cls d H' => E σ cls d H') (fRaise C fs Fs) := by
  obtain ⟨fI, fd, iC, tI, F1, hb⟩ := xc.ini
  subst hW
  exact ⟨ps_raise hc tk (pmk_oex xc.oex iC tI F1 hr hb .nil pass0 hg xc.gC ha.1 hdb he hpl), so_raise ha.2⟩
end
section
variable {P : Program} {w : World} {K : PySem.W.Frag} {mg : Str → Option Value} {base : Heap}
theorem takes_fn {N : List Str} {qual : Str} {sc : Scope} {f : Addr} {cdv : Value} {A : Around} {outer : List PySem.Env} {s : Shared} {H : Hp} {E : XK} : Takes (cxOf (L2.CX P w) P w K mg base N qual sc f cdv A outer s H E) (fun cls d _ H => E cls d H) := takes_of rfl rfl rfl rfl
/-- the __init__ of an error with one field -/
theorem init_one {C fI : Addr} {fd : FuncData} {qual f : Str} {st : Stmt} {x : Str} (F : Fun K "__init__" qual st fI fd) (Sc : FnScope [Str.ofString "self", f] [Str.ofString "self", f] (defScope st)) (oex : OexC K C) (hno : PySem.W.findIn K (.ref C) f = some none)
    (hbody : ∀ X : Cx, X.K = K → X.N = [Str.ofString "self", f] → X.mg = mg → X.env.scope = defScope st → ∃ ms : Str, PSs X (defBody st) (tSeq (tDrop (tVeI X.K (tCons (tVar 0) (tCons (tC (.str ms)) tNil)))) (tOst X.K f (tVar 0) (tVar 1)))) : FnOk P w K mg base CX0 1 fI fd [Str.ofString "self", f] (spInit C [f]) := by
  refine F.ok Sc (fun vs H Q E h => ?_) (fun cdv A outer s H vs Q E hr h => ?_)
  · obtain ⟨a, ys, rfl, hl, _⟩ := h
    rw [List.length_cons, hl]
    rfl
  · obtain ⟨a, ys, rfl, hl, ha, q⟩ := h
    match ys, hl with
    | [y], _ =>
      obtain ⟨ms, hp⟩ := hbody ((cxOf CX0 P w K mg base [Str.ofString "self", f] qual (defScope st) fI cdv A outer s H E).nox) rfl rfl rfl rfl
      refine ⟨_, hp, ?_⟩
      refine ⟨_, rfl, a, C, [.str ms], rfl, by show 1 ≤ 1000; decide, oex, ha, ?_⟩
      exact ⟨y, rfl, _, rfl, a, C, rfl, oex, hno, .inl ⟨ha, fun dx hd hn => q dx hd hn⟩⟩
end
end DL
set_option Elab.async false
set_option linter.all false
set_option maxRecDepth 100000
set_option maxHeartbeats 4000000
set_option autoImplicit false
namespace DL
open PySem PySem.Spec PyProof.Rows L2
/-! ### hot lists: read, stored into, grown -/
section
variable {η B : List Addr} {S : Sto} {H : Hp} {i : Nat} {a : Addr}
theorem cold_hot {o : HO} (h : a ∈ B) : cold B (upd H a o) = cold B H := by
  funext b
  unfold cold
  by_cases hb : b ∈ B
  · rw [if_pos hb, if_pos hb]
  · rw [if_neg hb, if_neg hb, upd_ne fun e => hb (by rw [e]; exact h)]
theorem Wd.setHot (w : Wd η B S H) (hi : η[i]? = some a) {o : HO} {u : HotO} (r : HotRel η (cold B H) (upd H a o) a u) : Nx η B η B (S.set i u) H (upd H a o) := by
  have ha : a ∈ η := List.mem_of_getElem? hi
  have hB := w.sub a ha
  refine ⟨⟨w.sub, fun b hb => ?_, w.nd, by rw [List.length_set]; exact w.len, fun j b v hj hv => ?_⟩, .refl η, w.sub, fun _ h => .inl h, fun _ h => .inl h, fun _ h => h, fun b x nb e => ?_⟩
  · by_cases e : b = a
    · rw [e, upd_same]; exact fun z => nomatch z
    · rw [upd_ne e]; exact w.live b hb
  · rw [cold_hot hB]
    by_cases e : i = j
    · subst e
      rw [hi] at hj
      cases hj
      have hl : i < S.length := by
        rw [← w.len]
        exact (List.getElem?_eq_some_iff.mp hi).1
      rw [List.getElem?_set_self hl] at hv
      cases hv
      exact r
    · rw [List.getElem?_set_ne e] at hv
      have nb : b ≠ a := fun z => by
        subst z
        exact e ((List.getElem?_inj (List.getElem?_eq_some_iff.mp hi).1 w.nd).mp (by rw [hi, hj]))
      exact (w.hot j b v hj hv).mono (fun _ _ q => q) fun x q => by rw [upd_ne nb]; exact q
  · rw [upd_ne fun z => nb (by rw [z]; exact ha)]
    exact e
theorem RpL.set {Hc : Hp} : ∀ {ds : List D} {xs : List V} {d : D} {v : V} (j : Nat), RpL η Hc ds xs → Rp η Hc d v → RpL η Hc (ds.set j d) (xs.set j v)
  | [], _, d, v, j, r, q => by rw [show _ = [] from r]; simp [RpL]
  | e :: ds, _, d, v, 0, ⟨u, us, eu, r, t⟩, q => by rw [eu]; exact ⟨v, us, rfl, q, t⟩
  | e :: ds, _, d, v, j + 1, ⟨u, us, eu, r, t⟩, q => by rw [eu]; exact ⟨u, _, rfl, r, RpL.set j t q⟩
end
def hotL (S : Sto) (i : Nat) : Option (List D) := match S[i]? with
  | some (.lst l) => some l
  | _ => none
theorem hotL_eq {S : Sto} {i : Nat} {l : List D} (h : hotL S i = some l) : S[i]? = some (.lst l) := by
  unfold hotL at h
  split at h
  · rename_i q; rw [q]; cases h; rfl
  · cases h
/-- a value that may be a hot list, as it stands -/
def deref (S : Sto) : D → Option D
  | .hot i => (hotL S i).map .lst
  | d => some d
section
variable {X : Cx} {E : EK} {e a b o ix : Expr} {pos p : Pos} {te ta tb to ti : TE} {Fa Fb Fe Fo Fi : Env → Sto → Res D}
@[simp] def fSetIx (Fe Fo Fi : Env → Sto → Res D) : Env → Sto → Flow := fun ρ S => (Fe ρ S).flow ρ fun d S1 => (Fo ρ S1).flow ρ fun x S2 => (Fi ρ S2).flow ρ fun y S3 => match x, y with
  | .hot i, .int k => (match hotL S3 i with
    | some l => (match ixN l.length k with
      | some j => .nx ρ (S3.set i (.lst (l.set j d)))
      | none => .bad)
    | none => .bad)
  | _, _ => .bad
theorem ds_setIx (he : DE X E e te Fe) (ho : DE X E o to Fo) (hi : DE X E ix ti Fi) (ha : ∀ v, assign (.Subscript o ix p) X.env v = (do
      let ov ← holding [v] (eval o X.env)
      let iv ← holding [v, ov] (eval ix X.env)
      standAt p
      holding [v, ov, iv] (setItem ov iv v)
      release [v, ov, iv] []) := by intro _; rfl) (hs : swapsWithSole [.Subscript o ix p] e pos.line X.env = pure false := by rfl) (hw : swappedStores [.Subscript o ix p] e X.env = pure none := by rfl)
    (h1 : (assignEach [.Subscript o ix p] X.env).map (·.2) = [assign (.Subscript o ix p) X.env] := by rfl) : DS X E (.Assign [.Subscript o ix p] e pos) (tAsg te (gSub to ti rSetL)) (fSetIx Fe Fo Fi) := by
  refine ⟨ps_asg he.1 (pg_sub ho.1 hi.1 set_list ha) hs hw h1, fun η B S σ ρ H w s => ?_⟩
  refine Sv.of s (T := te σ H) (T' := fun v H1 D => to σ H1 fun o H1' => ti σ H1' fun i H2 => rSetL o i v H2 fun H3 => D.nx σ H3) (he.2 η B S σ ρ H w s) fun d S1 v η1 B1 H1 n1 r1 => ?_
  refine Sv.of (n1.sl s) (T := to σ H1) (T' := fun o H1' D => ti σ H1' fun i H2 => rSetL o i v H2 fun H3 => D.nx σ H3) (ho.2 η1 B1 S1 σ ρ H1 n1.wd (n1.sl s)) fun x S2 u η2 B2 H2 n2 r2 => ?_
  refine Sv.of (n2.sl (n1.sl s)) (T := ti σ H2) (T' := fun i H3 D => rSetL u i v H3 fun H4 => D.nx σ H4) (hi.2 η2 B2 S2 σ ρ H2 n2.wd (n2.sl (n1.sl s))) fun y S3 y' η3 B3 H3 n3 r3 => ?_
  split
  · rename_i i k
    obtain ⟨q, rfl, hq⟩ := r2
    obtain rfl := r3
    split
    · rename_i l hl
      split
      · rename_i j hj
        obtain ⟨xs, hx, rl⟩ := n3.wd.hot i q _ (n3.up _ _ hq) (hotL_eq hl)
        have rd := n3.rp (n2.rp r1)
        have nn : Nx η3 B3 η3 B3 (S3.set i (.lst (l.set j d))) H3 (upd H3 q (.lst (xs.set j v))) := n3.wd.setHot (n3.up _ _ hq) ⟨_, upd_same, rl.set j rd⟩
        exact fun D kk => ⟨q, xs, k, j, rfl, rfl, hx, by rw [rl.length]; exact hj, kk σ _ _ _ nn (nn.sl (n3.sl (n2.sl (n1.sl s))))⟩
      · trivial
    · trivial
  · trivial
end
/-! ### statements, further -/
section
variable {X : Cx} {E : EK} {a b : Expr} {tas : TA} {Fs Fi : Env → Sto → Res (List D)} {pos : Pos}
theorem ds_par (i j : Nat) {x y : Str} {px py pt : Pos} {kt k2 pt2} (hN : X.N.Nodup) (h : DA X E [a, b] tas Fs) (hc : X.calm = true := by rfl) (hi : X.N[i]? = some x := by rfl) (hj : X.N[j]? = some y := by rfl) (hij : i ≠ j := by decide) (hx : X.env.scope.names.lookup x = some .local := by rfl) (hy : X.env.scope.names.lookup y = some .local := by rfl)
    (hw : swappedStores [.Tuple [.Name x px, .Name y py] kt pt] (.Tuple [a, b] k2 pt2) X.env = pure (some [x, y]) := by rfl) :
    DS X E (.Assign [.Tuple [.Name x px, .Name y py] kt pt] (.Tuple [a, b] k2 pt2) pos) (tPar i j tas) (fPar i j Fs) := ⟨ps_par hc hN hi hj hij hx hy h.1 hw, so_par h.2⟩
@[simp] def fPut (gF : D → Env → Option Env) (F : Env → Sto → Res D) : Env → Sto → Flow := fun ρ S => (F ρ S).flow ρ fun d S1 => match gF d ρ with
  | some ρ' => .nx ρ' S1
  | none => .bad
theorem ds_put {e tg : Expr} {te : TE} {g : TG} {F : Env → Sto → Res D} {is : List Nat} {gF : D → Env → Option Env} (h : DE X E e te F) (pg : PG X tg g) (sg : SoG g is gF) (hs : swapsWithSole [tg] e pos.line X.env = pure false := by rfl) (hw : swappedStores [tg] e X.env = pure none := by rfl)
    (h1 : (assignEach [tg] X.env).map (·.2) = [assign tg X.env] := by rfl) : DS X E (.Assign [tg] e pos) (tAsg te g) (fPut gF F) :=
  ⟨ps_asg h.1 pg hs hw h1, fun η B S σ ρ H w s => Sv.of s (T := te σ H) (T' := fun v H1 D => g v σ H1 D.nx) (h.2 η B S σ ρ H w s) fun d S1 v η1 B1 H1 n1 r1 => by
    cases hg : gF d ρ with
    | none => trivial
    | some ρ' => exact fun D k => sg η1 B1 S1 H1 d v σ ρ ρ' n1.wd (n1.sl s) r1 hg _ fun σ' s' _ => k σ' η1 B1 H1 n1.wd.refl s'⟩
variable {tg iter elt : Expr} {ifs : List Expr} {scope : Scope} {own : List (Str × Nat)} {wi : TI} {g : TG} {tt : TT} {te : TE} {gF : D → Env → Option Env} {T : Env → Sto → Res Bool} {F : Env → Sto → Res D}
theorem ds_setLc (i : Nat) {y : Str} {py spos : Pos} (bk : Blk X scope own tg ifs elt g tt te gF T F) (hi : DI X E tg iter wi Fi) (hN : X.N.Nodup) (hc : X.calm = true := by rfl) (hy : X.N[i]? = some y := by rfl) (hyl : X.env.scope.names.lookup y = some .local := by rfl)
    (hsw : swapsWith (.ListComp elt [⟨tg, iter, ifs, 0⟩] scope pos) (some (.Name y py)) spos.line X.env = pure true := by exact sw_true rfl rfl rfl (by decide +kernel)) (hs : ∀ x, foldedSetIterable iter X.env x = pure x := by intro _; rfl) :
    DS X E (.Assign [.Name y py] (.ListComp elt [⟨tg, iter, ifs, 0⟩] scope pos) spos) (tAsg (tLc wi g tt te (own.map (·.2))) (gName i)) (fSet i (lcomp (own.map (·.2)) Fi gF T F)) := by
  obtain ⟨is, h1, h2⟩ := bk.sg
  exact ⟨ps_setLc hc hN hy hyl hsw hi.1 bk.ok bk.pg (fun s H C cl fp => (bk.pt s H C cl fp).1) (fun s H C cl fp => (bk.pe s H C cl fp).1) hs, so_set (so_lc hi.2 h1 h2 (bk.pt X.s_0 X.H_0 0 [] []).2 (bk.pe X.s_0 X.H_0 0 [] []).2)⟩
end
/-! ### isinstance of built-in classes -/
@[simp] theorem kb_NoneType_str : kitB "NoneType" "str" = some false := by decide +kernel
@[simp] theorem kb_NoneType_int : kitB "NoneType" "int" = some false := by decide +kernel
@[simp] theorem kb_NoneType_bool : kitB "NoneType" "bool" = some false := by decide +kernel
@[simp] theorem kb_NoneType_dict : kitB "NoneType" "dict" = some false := by decide +kernel
@[simp] theorem kb_NoneType_tuple : kitB "NoneType" "tuple" = some false := by decide +kernel
@[simp] theorem kb_NoneType_list : kitB "NoneType" "list" = some false := by decide +kernel
@[simp] theorem kb_bool_str : kitB "bool" "str" = some false := by decide +kernel
@[simp] theorem kb_bool_int : kitB "bool" "int" = some true := by decide +kernel
@[simp] theorem kb_bool_bool : kitB "bool" "bool" = some true := by decide +kernel
@[simp] theorem kb_bool_dict : kitB "bool" "dict" = some false := by decide +kernel
@[simp] theorem kb_bool_tuple : kitB "bool" "tuple" = some false := by decide +kernel
@[simp] theorem kb_bool_list : kitB "bool" "list" = some false := by decide +kernel
@[simp] theorem kb_int_str : kitB "int" "str" = some false := by decide +kernel
@[simp] theorem kb_int_int : kitB "int" "int" = some true := by decide +kernel
@[simp] theorem kb_int_bool : kitB "int" "bool" = some false := by decide +kernel
@[simp] theorem kb_int_dict : kitB "int" "dict" = some false := by decide +kernel
@[simp] theorem kb_int_tuple : kitB "int" "tuple" = some false := by decide +kernel
@[simp] theorem kb_int_list : kitB "int" "list" = some false := by decide +kernel
@[simp] theorem kb_str_str : kitB "str" "str" = some true := by decide +kernel
@[simp] theorem kb_str_int : kitB "str" "int" = some false := by decide +kernel
@[simp] theorem kb_str_bool : kitB "str" "bool" = some false := by decide +kernel
@[simp] theorem kb_str_dict : kitB "str" "dict" = some false := by decide +kernel
@[simp] theorem kb_str_tuple : kitB "str" "tuple" = some false := by decide +kernel
@[simp] theorem kb_str_list : kitB "str" "list" = some false := by decide +kernel
@[simp] theorem kb_list_str : kitB "list" "str" = some false := by decide +kernel
@[simp] theorem kb_list_int : kitB "list" "int" = some false := by decide +kernel
@[simp] theorem kb_list_bool : kitB "list" "bool" = some false := by decide +kernel
@[simp] theorem kb_list_dict : kitB "list" "dict" = some false := by decide +kernel
@[simp] theorem kb_list_tuple : kitB "list" "tuple" = some false := by decide +kernel
@[simp] theorem kb_list_list : kitB "list" "list" = some true := by decide +kernel
@[simp] theorem kb_tuple_str : kitB "tuple" "str" = some false := by decide +kernel
@[simp] theorem kb_tuple_int : kitB "tuple" "int" = some false := by decide +kernel
@[simp] theorem kb_tuple_bool : kitB "tuple" "bool" = some false := by decide +kernel
@[simp] theorem kb_tuple_dict : kitB "tuple" "dict" = some false := by decide +kernel
@[simp] theorem kb_tuple_tuple : kitB "tuple" "tuple" = some true := by decide +kernel
@[simp] theorem kb_tuple_list : kitB "tuple" "list" = some false := by decide +kernel
@[simp] theorem kb_dict_str : kitB "dict" "str" = some false := by decide +kernel
@[simp] theorem kb_dict_int : kitB "dict" "int" = some false := by decide +kernel
@[simp] theorem kb_dict_bool : kitB "dict" "bool" = some false := by decide +kernel
@[simp] theorem kb_dict_dict : kitB "dict" "dict" = some true := by decide +kernel
@[simp] theorem kb_dict_tuple : kitB "dict" "tuple" = some false := by decide +kernel
@[simp] theorem kb_dict_list : kitB "dict" "list" = some false := by decide +kernel
/-! ### numbers by built-in functions -/
def fAbs (_ : Sto) : List D → Option D
  | [.int i] => some (.int (if i < 0 then -i else i))
  | _ => none
theorem v_abs : VN (fun xs H Q => ∃ i, xs = [V.int i] ∧ Q (V.int (if i < 0 then -i else i)) H) fAbs := fun E η B S H ds vs w r => by
  unfold fAbs
  split
  · obtain ⟨v, r2, rfl, rfl, rfl⟩ := r
    exact fun Q k => ⟨_, rfl, k _ η B H w.refl rfl⟩
  · trivial
def fInt1 (_ : Sto) : List D → Option D
  | [.int i] => some (.int i)
  | [.bl b] => some (.int (if b then 1 else 0))
  | _ => none
theorem v_int : VN (fun xs H Q => (∃ i, xs = [V.int i] ∧ Q (V.int i) H) ∨ ∃ k, xs = [V.bl k] ∧ Q (V.int (if k then 1 else 0)) H) fInt1 := fun E η B S H ds vs w r => by
  unfold fInt1
  split
  · obtain ⟨v, r2, rfl, rfl, rfl⟩ := r
    exact fun Q k => .inl ⟨_, rfl, k _ η B H w.refl rfl⟩
  · obtain ⟨v, r2, rfl, rfl, rfl⟩ := r
    exact fun Q k => .inr ⟨_, rfl, k _ η B H w.refl rfl⟩
  · trivial
def fMin2 (_ : Sto) : List D → Option D
  | [.int i, .int j] => some (.int (if j < i then j else i))
  | _ => none
def fMax2 (_ : Sto) : List D → Option D
  | [.int i, .int j] => some (.int (if j > i then j else i))
  | _ => none
theorem v_min : VN (fun xs H Q => ∃ i j, xs = [V.int i, V.int j] ∧ Q (V.int (if j < i then j else i)) H) fMin2 := fun E η B S H ds vs w r => by
  unfold fMin2
  split
  · obtain ⟨v, r2, rfl, rfl, v', r3, rfl, rfl, rfl⟩ := r
    exact fun Q k => ⟨_, _, rfl, k _ η B H w.refl rfl⟩
  · trivial
theorem v_max : VN (fun xs H Q => ∃ i j, xs = [V.int i, V.int j] ∧ Q (V.int (if j > i then j else i)) H) fMax2 := fun E η B S H ds vs w r => by
  unfold fMax2
  split
  · obtain ⟨v, r2, rfl, rfl, v', r3, rfl, rfl, rfl⟩ := r
    exact fun Q k => ⟨_, _, rfl, k _ η B H w.refl rfl⟩
  · trivial
def opPow (_ : Sto) : D → D → Option D
  | .int i, .int j => if 0 ≤ j ∧ j ≤ 1000000 ∧ i.natAbs < 2 ^ 64 then some (.int (i ^ j.toNat)) else none
  | _, _ => none
theorem v_pow : V2 (rI CPow fun i j => .int (i ^ j.toNat)) opPow := v_I fun S x y z h => by
  unfold opPow at h
  split at h
  · split at h
    · rename_i c; cases h; exact ⟨_, _, rfl, rfl, c, fun _ _ => rfl⟩
    · cases h
  · cases h
end DL
set_option Elab.async false
set_option linter.all false
set_option maxRecDepth 100000
set_option maxHeartbeats 4000000
set_option autoImplicit false
namespace DL
open PySem PySem.Spec PyProof.Rows L2
/-! ### order of data -/
def rLtX (K : PySem.W.Frag) (f : PyData → PyData → Bool) : R2 := fun x y H Q => ∃ p q, Dp K H x p ∧ Dp K H y q ∧ PySem.W.alike p q = true ∧ p.depth ≤ 60 ∧ p ≠ .none ∧ Q (.bl (f p q)) H
section
variable {X : Cx} {K : PySem.W.Frag}
theorem or_ltX (hu : X.A.units + 64 < cLine) (hK : X.K = K := by rfl) : OpR X (compareOp .Lt) (rLtX K PySem.W.dataLt) := by
  subst hK
  intro pins s σ H x y v u Q I rx ry h
  obtain ⟨p, q, hx, hy, ha, hd, hn, k⟩ := h
  obtain ⟨as, r1⟩ := hx.reads I p x v rx
  obtain ⟨bs, r2⟩ := hy.reads I q y u ry
  exact PySem.W.lt_data r1 r2 ha hn (by omega) ⟨.bl _, H, I, rfl, k⟩
theorem or_leX (hu : X.A.units + 64 < cLine) (hK : X.K = K := by rfl) : OpR X (compareOp .LtE) (rLtX K fun p q => !PySem.W.dataLt q p) := by
  subst hK
  intro pins s σ H x y v u Q I rx ry h
  obtain ⟨p, q, hx, hy, ha, hd, hn, k⟩ := h
  obtain ⟨as, r1⟩ := hx.reads I p x v rx
  obtain ⟨bs, r2⟩ := hy.reads I q y u ry
  exact PySem.W.le_data r1 r2 ha hn (by omega) ⟨.bl _, H, I, rfl, k⟩
end
def isNoP : PyData → Bool
  | .none => true
  | _ => false
theorem isNoP_ne {p : PyData} (h : isNoP p = false) : p ≠ .none := fun e => by subst e; cases h
def opLtX (f : PyData → PyData → Bool) (S : Sto) (x y : D) : Option D := (toPy (cl S x)).bind fun p => (toPy (cl S y)).bind fun q => if PySem.W.alike p q = true ∧ p.depth ≤ 60 ∧ isNoP p = false then some (.bl (f p q)) else none
theorem v_ltG (K : PySem.W.Frag) (f : PyData → PyData → Bool) : V2 (rLtX K f) (opLtX f) := fun E η B S H x y u v w rx ry => by
  unfold opLtX
  cases e1 : toPy (cl S x) with
  | none => trivial
  | some p =>
    cases e2 : toPy (cl S y) with
    | none => trivial
    | some q =>
      simp only [Option.bind_some]
      split
      · rename_i c
        exact fun Q k => ⟨p, q, rp_dpS w rx e1, rp_dpS w ry e2, c.1, c.2.1, isNoP_ne c.2.2, k _ η B H w.refl rfl⟩
      · trivial
theorem v_ltX (K : PySem.W.Frag) : V2 (rLtX K PySem.W.dataLt) (opLtX PySem.W.dataLt) := v_ltG K _
theorem v_leX (K : PySem.W.Frag) : V2 (rLtX K fun p q => !PySem.W.dataLt q p) (opLtX fun p q => !PySem.W.dataLt q p) := v_ltG K _
/-! ### sorted -/
def enc (d : D) : PyData := (toPy d).getD .none
def encOk (ds : List D) : Prop := (∀ d ∈ ds, (toPy d).isSome = true) ∧ PySem.W.AllAlike (ds.map enc) ∧ PySem.W.Sortable (ds.map enc) ∧ (∀ d ∈ ds, (enc d).depth ≤ 50) ∧ ds.length ≤ 100000
noncomputable def sortD (ds : List D) : List D := ds.mergeSort (PySem.W.dataLe false enc)
open Classical in
noncomputable def fSorted (S : Sto) : List D → Option D
  | [x] => (vL S x).bind fun l => if encOk l then some (.lst (sortD l)) else none
  | _ => none
/-- sorted(xs), xs a list of data -/
def rSortedX (K : PySem.W.Frag) : List V → Hp → VK → Prop := fun vs H Q => ∃ (a : Addr) (xs : List V) (ds : List D) (η : List Addr) (Hc : Hp), vs = [.ref a] ∧ SqL K H a xs ∧ Same Hc H ∧ RpL η Hc ds xs ∧ encOk ds ∧
  ∀ ys p, H p = none → RpL η Hc (sortD ds) ys → Q (.ref p) (upd H p (.lst ys))
theorem each_rp {η : List Addr} {Hc : Hp} : ∀ {ds : List D} {xs : List V} {us : List Value}, RpL η Hc ds xs → Vals xs us → PySem.W.EachIs (fun u d => ∃ v, RelV v u ∧ Rp η Hc d v) us ds
  | [], xs, us, r, q => by
    rw [show xs = [] from r] at q
    cases q
    exact .nil
  | d :: ds, xs, us, ⟨v, vs, e, rv, rl⟩, q => by
    subst e
    cases q with
    | cons h t => exact .cons ⟨v, h, rv⟩ (each_rp rl t)
theorem rp_each {η : List Addr} {Hc : Hp} : ∀ {ds : List D} {us : List Value}, PySem.W.EachIs (fun u d => ∃ v, RelV v u ∧ Rp η Hc d v) us ds → ∃ xs, RpL η Hc ds xs ∧ Vals xs us
  | _, _, .nil => ⟨[], rfl, .nil⟩
  | _, _, .cons ⟨v, h, rv⟩ t => by
    obtain ⟨xs, r, q⟩ := rp_each t
    exact ⟨v :: xs, ⟨v, xs, rfl, rv, r⟩, .cons h q⟩
theorem cr_sortedX {X : Cx} {K : PySem.W.Frag} (hu : X.A.units + 64 < cLine) (hK : X.K = K := by rfl) : CallR X (.builtin "sorted") (rSortedX K) := by
  subst hK
  intro pins s σ H vs us Q I r h
  obtain ⟨a, xs, ds, η, Hc, rfl, hs, sm, rl, ok, q⟩ := h
  obtain ⟨its, rv, hl, _⟩ := I.list hs
  rw [Vals.ref1 r]
  have e0 := each_rp rl rv
  have er : PySem.W.EachIs (fun u d => ∃ as, Reads s.heap u (enc d) as) its ds := by
    have h1 := PySem.W.each_mem e0
    refine h1.mono fun u d ⟨⟨v, ru, rd⟩, hd⟩ => ?_
    have hp := ok.1 d hd
    obtain ⟨p, hp⟩ := Option.isSome_iff_exists.mp hp
    have := (rp_dp (K := X.K) sm d rd hp).reads I p v u ru
    unfold enc
    rw [hp]
    exact this
  refine PySem.W.sorted_data (bs := ds) (enc := enc) hl.isList e0 er ok.2.1 ok.2.2.1 (size_ok ok.2.2.2.2) (fun d hd => by have := ok.2.2.2.1 d hd; omega) fun out hlen hout => ?_
  obtain ⟨ys, ry, vy⟩ := rp_each hout
  obtain ⟨ep, he'⟩ := PyProof.Rows.sortedAll_at s.heap its (List.toArray out)
  have hlen2 : ys.length ≤ sizeLine := by
    rw [ry.length, List.length_mergeSort]
    exact size_ok ok.2.2.2.2
  exact ⟨.ref _, upd H (s.heap.objs.size + 1) (.lst ys), I.laid (t' := s.toks) (fun _ _ => PyProof.Rows.sortedAll_old) (Nat.le_succ _) ⟨hlen2, out, ep, vy, he'⟩, rfl, q ys _ (I.hok.fresh (Nat.le_succ _)) ry⟩
theorem v_sortedX (K : PySem.W.Frag) : VN (rSortedX K) fSorted := fun E η B S H ds vs w r => by
  unfold fSorted
  split
  · rename_i x
    obtain ⟨v, r2, rfl, rx, rfl⟩ := r
    cases hx : vL S x with
    | none => trivial
    | some l =>
      obtain ⟨a, xs, rfl, ha, ra⟩ := w.seeL rx hx
      simp only [Option.bind_some]
      split
      · rename_i c
        exact fun Q k => ⟨a, xs, _, η, cold B H, rfl, .inl (.inl ha), cold_le, ra, c, fun ys p hp ry => k _ _ _ _ (w.new hp) ⟨p, ys, rfl, w.cold_new hp, (w.new hp).rpL ry⟩⟩
      · trivial
  · trivial
end DL
set_option Elab.async false
set_option linter.all false
set_option maxRecDepth 100000
set_option maxHeartbeats 4000000
set_option autoImplicit false
namespace DL
open PySem PySem.Spec PyProof.Rows L2
/-! ### sorted(xs, key=f), f a def of the text -/
section
variable {X : Cx} {pins : List (Addr × Obj)} {σ : L2.St} {H : Hp} {s : Shared}
/-- far addresses: behind the state at hand they may be changed at will -/
theorem Inv.far {h' : Heap} {t' : Nat} {H' : Hp} {ch : List Addr} (I : Inv X pins σ H s) {n : Nat} (hn : X.s_0.heap.objs.size ≤ n) (hloc : X.env.locals < n) (hcell : ∀ x c, X.env.cells.lookup x = some c → c < n) (hpin : ∀ p ∈ X.pn ++ pins, p.1 < n)
    (hch : ∀ b ∈ ch, n ≤ b) (keep : ∀ b o, b ∉ ch → s.heap.get? b = some o → h'.get? b = some o) (free : ∀ b o, b ∉ ch → s.heap.get? b = some o → H b = none → H' b = none)
    (tups : ∀ b xs, H b = some (.tup xs) → H' b = some (.tup xs)) (frzs : ∀ b o u, H b = some (.frz o u) → H' b = some (.frz o u)) (tbls : ∀ b ps, H b = some (.tbl ps) → ∃ more, H' b = some (.tbl (ps ++ more))) (hok : HOk X.prog X.w H' h') : Inv X pins σ H' { s with heap := h', toks := t' } := by
  have nl : X.env.locals ∉ ch := fun z => absurd (Nat.lt_of_lt_of_le hloc (hch _ z)) (Nat.lt_irrefl _)
  exact I.step (g' := s.gens) (d' := s.drawn) (ch := ch) (fun b hb => ⟨.inr (Nat.le_trans hn (hch b hb)), Nat.ne_of_gt (Nat.lt_of_lt_of_le hloc (hch b hb)), fun x c e => Nat.ne_of_lt (Nat.lt_of_lt_of_le (hcell x c e) (hch b hb)), fun p hp => Nat.ne_of_lt (Nat.lt_of_lt_of_le (hpin p hp) (hch b hb))⟩)
    (fun b o _ _ hc e _ => keep b o hc e) (fun b o _ _ hc e _ => ⟨o.slots, keep b o hc e⟩) free (fun b o hc e => ⟨o, keep b o hc e⟩) tups frzs tbls (fun m hm => by
      obtain ⟨o, es, ep, ho, r⟩ := hm
      exact ⟨o, es, ep, keep _ _ nl ho, r⟩) hok I.bare
end
/-- what is asked of sorted(xs, key=f): m the mirror of f, key what it gives -/
def rSortK (f : Addr) (K : PySem.W.Frag) (m : List D → Sto → Res D) : List V → List V → Hp → VK → Prop := fun vs zs H Q => ∃ (a : Addr) (xs : List V) (ds : List D) (η B : List Addr) (S : Sto) (key : D → D), vs = [.ref a] ∧ zs = [.ref f] ∧ SqL K H a xs ∧ Wd η B S H ∧ RpL η (cold B H) ds xs ∧
  (∀ d ∈ ds, m [d] S = .ok (key d) S) ∧ encOk (ds.map key) ∧ ∀ ys p η' B' H', Nx η B η' B' S H H' → H' p = none → RpL η' (cold B' H') (ds.mergeSort (PySem.W.dataLe false fun d => enc (key d))) ys → Q (.ref p) (upd H' p (.lst ys))
theorem hok_put {P : Program} {w : World} {H : Hp} {h h' : Heap} {ch : List Addr} (ok : HOk P w H h) (hc : ∀ c ∈ ch, H c = none) (k : ∀ b o, b ∉ ch → h.get? b = some o → h'.get? b = some o) : HOk P w H h' := fun b o e =>
  (ok b o e).stay (fun c u hcb q => k c u (fun z => by
    have n := hc c z
    rcases hcb with rfl | hcb
    · rw [e] at n; cases n
    · rw [hcb] at n; cases n) q) (fun _ q => q) fun _ _ q => q
theorem hok_new {P : Program} {w : World} {H : Hp} {h h' : Heap} {ch : List Addr} {a : Addr} {o' : HO} (ok : HOk P w H h) (hc : ∀ c ∈ ch, H c = none) (ha : H a = none) (k : ∀ b o, b ∉ ch → h.get? b = some o → h'.get? b = some o) (new : ObjOk P w (upd H a o') h' a o') : HOk P w (upd H a o') h' := fun b o e => by
  by_cases hb : b = a
  · subst hb; rw [upd_same] at e; cases e; exact new
  · rw [upd_ne hb] at e
    exact (ok b o e).stay (fun c u hcb q => k c u (fun z => by
      have n := hc c z
      rcases hcb with rfl | hcb
      · rw [e] at n; cases n
      · rw [hcb] at n; cases n) q) (fun c q => by rw [upd_ne (ne_of_none q ha)]; exact q) fun c xs q => by rw [upd_ne (ne_of_none q ha)]; exact q
theorem sort_rest {X : Cx} {pins : List (Addr × Obj)} {σ : L2.St} {H : Hp} {s : Shared} {k n : Nat} {f a kS : Addr} {fd : FuncData} {ps : List Str} {m : List D → Sto → Res D} {E' : Value → Shared → Prop} {Q : VK} {e1 : Nat} {its : List Value} {xs : List V} {ds : List D} {η B : List Addr} {S : Sto} {key : D → D}
    (G : FnOk X.prog X.w X.K X.mg X.base (L2.CX X.prog X.w) k f fd ps (spF 1 m)) (hb : Binds X.K fd ps []) (hr1 : Room k X.A.in1.in1) (hu : X.A.units + 64 < cLine) (n1 : X.s_0.heap.objs.size ≤ n) (n2 : X.env.locals < n) (n3 : ∀ x c, X.env.cells.lookup x = some c → c < n) (n4 : ∀ p ∈ X.pn ++ pins, p.1 < n)
    (J : Inv X pins σ H s) (nk : s.heap.get? kS = some (seqObj "list" #[] 0)) (na : s.heap.get? a = some (seqObj "list" #[] e1)) (hka : kS ≠ a) (hk1 : n ≤ kS) (ha1 : n ≤ a) (fk : H kS = none) (fa : H a = none)
    (rv : Vals xs its) (wd : Wd η B S H) (rl : RpL η (cold B H) ds xs) (hm : ∀ d ∈ ds, m [d] S = .ok (key d) S) (ok : encOk (ds.map key))
    (q : ∀ ys p η' B' H', Nx η B η' B' S H H' → H' p = none → RpL η' (cold B' H') (ds.mergeSort (PySem.W.dataLe false fun d => enc (key d))) ys → Q (.ref p) (upd H' p (.lst ys))) :
    wpAny (model X.prog X.w) X.A.in1.in1 (ksk_rest a (.ref f) false its.toArray e1 (.ref kS)) (fun fl s' => fl = .done (.ret .none) ∧ EP X pins σ Q (.ref a) s') E' s := by
  have hlen : its.length = ds.length := by rw [← rv.length, rl.length]
  have hds : ds.length ≤ 100000 := by have := ok.2.2.2.2; rwa [List.length_map] at this
  have hZ : its.length ≤ sizeLine := by rw [hlen]; exact size_ok hds
  have far : ∀ (H' : Hp) (s' : Shared), Inv X pins σ H' s' → ∀ b : Addr, n ≤ b → b ∉ frs X.stack := fun H' s' J' b hb z => by
    rcases List.mem_cons.mp (J'.stkSub b z) with e | z
    · rw [e] at hb; exact absurd (Nat.lt_of_lt_of_le n2 hb) (Nat.lt_irrefl _)
    · obtain ⟨_, o, ho, _⟩ := J'.ok.funs.mem z
      exact absurd (Nat.lt_of_lt_of_le (Heap.lt_size ho) (Nat.le_trans n1 hb)) (Nat.lt_irrefl _)
  unfold ksk_rest
  refine wpAny_bind (wpAny_rule ?_)
  first
    | rw [List.forIn_toArray]
    | (rw [← Array.forIn_toList]; simp only [List.toList_toArray])
    | rw [← Array.forIn_toList]
  refine wpAny_bind (ksk_fold (fun i s' => ∃ η' B' H' kA e kvs, Inv X pins σ H' s' ∧ Nx η B η' B' S H H' ∧ s'.heap.get? kS = some (seqObj "list" kA e) ∧ s'.heap.get? a = some (seqObj "list" #[] e1) ∧ H' kS = none ∧ H' a = none ∧ Vals kvs kA.toList ∧ RpL η' (cold B' H') ((ds.map key).take i) kvs) its 0 s
    ⟨η, B, H, #[], 0, [], J, wd.refl, nk, na, fk, fa, .nil, by rw [List.take_zero]; rfl⟩ ?step ?done)
  case step =>
    rintro j x s' hx ⟨η', B', H', kA, e, kvs, J', nx, nk', na', fk', fa', rk, rlk⟩
    simp only [Nat.zero_add] at rlk ⊢
    have hj : j < its.length := (List.getElem?_eq_some_iff.mp hx).1
    obtain ⟨vv, hvv⟩ : ∃ vv, xs[j]? = some vv := ⟨_, List.getElem?_eq_getElem (by rw [rv.length]; exact hj)⟩
    obtain ⟨u, hu', ru⟩ := rv.get hvv
    obtain rfl : u = x := Option.some.inj (hu'.symm.trans hx)
    obtain ⟨d, hd, rd⟩ := rl.get hvv
    have hdm : d ∈ ds := List.mem_of_getElem? hd
    have rd' := nx.rp rd
    have e0 := J'.env0
    have env1 : Env0 X.prog X.w X.K X.mg X.base X.A.in1.in1 X.stack s' H' := ⟨e0.frames, e0.mod, e0.bs, e0.bsz, e0.funs, e0.frf, e0.hok, e0.bare⟩
    have hkz : kA.size = j := by
      have h1 := rk.length
      have h2 := rlk.length
      have h3 : kA.toList.length = kA.size := Array.length_toList ..
      rw [List.length_take, List.length_map] at h2
      omega
    have hsp : spF 1 m [vv] H' (fun v H'' => ∃ η2 B2, Nx η' B' η2 B2 S H' H'' ∧ Rp η2 (cold B2 H'') (key d) v) (fun _ _ _ => False) := ⟨η', B', S, [d], rfl, nx.wd, ⟨vv, [], rfl, rd', rfl⟩, by rw [hm d hdm]; exact fun v η2 B2 H'' n2 r2 => ⟨η2, B2, n2, r2⟩⟩
    have hps : ([u] ++ ([] : List Value)).length = ps.length := G.len _ _ _ _ hsp
    have run := G.run X.A.in1.in1 X.stack s' H' ⟨[u], []⟩ [u] [vv] _ _ hr1 env1 (hb s' [u] J'.kIn hps) (.cons ru .nil) hsp
    have mid : wpAny (model X.prog X.w) X.A.in1.in1 (call (.ref f) [u]) (fun v s'' => ∃ v' η2 B2 H2, RelV v' v ∧ Inv X pins σ H2 s'' ∧ Nx η' B' η2 B2 S H' H2 ∧ Rp η2 (cold B2 H2) (key d) v' ∧ s''.heap.get? kS = some (seqObj "list" kA e) ∧ s''.heap.get? a = some (seqObj "list" #[] e1) ∧ H2 kS = none ∧ H2 a = none) (fun _ _ => False) s' := by
      refine wpAny_call (codeAny_mono run fun r s'' hq => ?_)
      cases r with
      | error er =>
        obtain ⟨_, _, _, _, _, _, _, _, _, _, _, _, z⟩ := hq
        exact z.elim
      | ok fl =>
        cases fl with
        | ret u2 =>
          obtain ⟨v, H2, os, bare, un, hok, r2, η2, B2, nx2, rk2⟩ := hq
          exact ⟨v, η2, B2, H2, r2, J'.call' (ch := []) os un hok bare (fun b z => absurd z (by simp)), nx2, rk2, un.keep kS _ nk' fk' (far _ _ J' _ hk1) (by simp), un.keep a _ na' fa' (far _ _ J' _ ha1) (by simp), un.free kS _ nk' fk' (by simp), un.free a _ na' fa' (by simp)⟩
        | next => exact False.elim hq
        | brk => exact False.elim hq
        | cont => exact False.elim hq
    refine wpAny_bind (wpAny_attempt (wpAny_mono mid (fun v s'' he => ?_) fun _ _ hF => hF.elim))
    · obtain ⟨v', η2, B2, H2, r2, J2, nx2, rk2, nk2, na2, fk2, fa2⟩ := he
      try dsimp only
      have s1 := Heap.SameBut.update s''.heap kS (Obj.mapSeq (·.push v))
      obtain ⟨c2, hc2⟩ : ∃ c2, (s''.heap.update kS (Obj.mapSeq (·.push v))).get? kS = some (seqObj "list" (kA.push v) c2) := ⟨_, get?_update_seq nk2 (·.push v)⟩
      refine wpAny_bind (listUpdate_at nk2 rfl ?_ (by rw [hkz]; omega) (by rw [Array.size_push, hkz]; omega))
      have kp : ∀ b o, b ∉ [kS] → s''.heap.get? b = some o → (s''.heap.update kS (Obj.mapSeq (·.push v))).get? b = some o := fun b o hb ho => (s1.2 b (by simpa using hb)).trans ho
      have hcn : ∀ c ∈ [kS], H2 c = none := fun c hc => by rw [List.mem_singleton.mp hc]; exact fk2
      refine wpAny_pure ⟨rfl, η2, B2, H2, kA.push v, c2, kvs ++ [v'], ?_, nx.trans nx2, hc2, (s1.2 a hka.symm).trans na2, fk2, fa2, ?_, ?_⟩
      · exact Inv.far J2 n1 n2 n3 n4 (ch := [kS]) (fun b hb => by rw [List.mem_singleton.mp hb]; exact hk1) kp (fun b o _ _ z => z) (fun _ _ z => z) (fun _ _ _ z => z) (fun b ps z => ⟨#[], by rw [z]; simp⟩) (hok_put J2.hok hcn kp)
      · rw [Array.toList_push]
        exact rk.append (.cons r2 .nil)
      · have ek : (ds.map key).take (j + 1) = (ds.map key).take j ++ [key d] := by rw [List.take_add_one, List.getElem?_map, hd]; simp
        rw [ek]
        exact (nx2.rpL rlk).snoc rk2
  case done =>
    rintro s' ⟨η', B', H', kA, e, kvs, J', nx, nk', na', fk', fa', rk, rlk⟩
    have e3 : (ds.map key).take (0 + its.length) = ds.map key := List.take_of_length_le (by rw [List.length_map]; omega)
    rw [e3] at rlk
    have hk' : PySem.W.EachIs (fun v k => ∃ as, Reads s'.heap v k as) kA.toList ((ds.map key).map enc) := by
      refine PySem.W.each_map (R := fun v k => ∃ as, Reads s'.heap v k as) enc ((PySem.W.each_mem (each_rp rlk rk)).mono fun u d ⟨⟨v, ru, rd⟩, hd⟩ => ?_)
      obtain ⟨p, hp⟩ := Option.isSome_iff_exists.mp (ok.1 d hd)
      have := (rp_dp (K := X.K) cold_le d rd hp).reads J' p v u ru
      unfold enc
      rw [hp]
      exact this
    have hsz : kA.size = its.length := by
      have h1 := hk'.length
      rw [Array.length_toList, List.length_map, List.length_map] at h1
      omega
    obtain ⟨G', g1, g2⟩ := restrict s'.heap fun b => decide (b ≠ kS)
    have kp : PySem.W.KeepsBut a G' s'.heap := fun b o _ e => by
      by_cases hbk : b = kS
      · rw [hbk, g2 kS (by simp)] at e; cases e
      · rw [← g1 b (by simpa using hbk)]; exact e
    try dsimp only
    refine wpAny_bind (listItems_at nk' rfl ?_)
    have hal : PySem.W.AllAlike ((ds.map key).map enc) := ok.2.1
    refine PySem.W.keyH_end (κ := PySem.W.dataKind s'.heap ((ds.map key).map enc)) (h₁ := G') kp (g2 kS (by simp)) nk' na' hka (PySem.W.SortsAt.data (s := s') hk' hal ok.2.2.1 (fun d hd => ?_)) hsz hZ fun h3 tk3 c k3 m3 => ⟨rfl, ?_⟩
    · obtain ⟨d', hd', rfl⟩ := List.mem_map.mp hd
      have := ok.2.2.2.1 d' hd'
      show X.A.units + 1 + 1 + (enc d').depth < cLine
      omega
    · have ko : PySem.W.KeyedOut false (ds.map fun d => enc (key d)) its (PySem.W.sortVals (PySem.W.dataKind s'.heap ((ds.map key).map enc)) false kA.toList its) := by
        rw [show (ds.map fun d => enc (key d)) = (ds.map key).map enc by rw [List.map_map]; rfl]
        exact ⟨s'.heap, kA.toList, hal, rfl, hk'⟩
      have er := each_rp (nx.rpL rl) rv
      obtain ⟨ys, ry, vy⟩ := rp_each (PySem.W.keyedOut_each (fun d => enc (key d)) ko er)
      have kb : ∀ b o, b ∉ [kS, a] → s'.heap.get? b = some o → h3.get? b = some o := fun b o hb ho => by
        have hb1 : b ≠ kS := fun z => hb (by simp [z])
        have hb2 : b ≠ a := fun z => hb (by simp [z])
        exact k3 b o hb2 (by rw [g1 b (by simpa using hb1)]; exact ho)
      have hcn : ∀ c ∈ [kS, a], H' c = none := fun c hc => by
        rcases List.mem_cons.mp hc with z | z
        · rw [z]; exact fk'
        · rw [List.mem_singleton.mp z]; exact fa'
      refine ⟨.ref a, upd H' a (.lst ys), Inv.far J' n1 n2 n3 n4 (ch := [kS, a]) (fun b hb => ?_) kb (fun b o hb _ z => ?_) (fun b xs z => ?_) (fun b o u z => ?_) (fun b ps z => ⟨#[], ?_⟩) (hok_new J'.hok hcn fa' kb ⟨?_, _, c, vy, m3⟩), rfl, q ys a η' B' H' nx fa' ry⟩
      · rcases List.mem_cons.mp hb with z | z
        · rw [z]; exact hk1
        · rw [List.mem_singleton.mp z]; exact ha1
      · rw [upd_ne fun e => hb (by simp [e])]; exact z
      · rw [upd_ne (ne_of_none z fa')]; exact z
      · rw [upd_ne (ne_of_none z fa')]; exact z
      · rw [upd_ne (ne_of_none z fa'), z]; simp
      · rw [ry.length, List.length_mergeSort]
        exact size_ok hds
theorem cr_sortedK {X : Cx} {K : PySem.W.Frag} {k : Nat} {f : Addr} {fd : FuncData} {ps : List Str} {m : List D → Sto → Res D} (G : FnOk X.prog X.w X.K X.mg X.base (L2.CX X.prog X.w) k f fd ps (spF 1 m)) (hb : Binds X.K fd ps []) (hr : Room (k + 2) X.A) (hK : X.K = K := by rfl) :
    CallRK X (.builtin "sorted") [Str.ofString "key"] (rSortK f K m) := by
  subst hK
  intro pins s σ H vs zs us ws Q I r rz h
  obtain ⟨a0, xs, ds, η, B, S, key, rfl, rfl, hs, wd, rl, hm, ok, q⟩ := h
  obtain rfl := Vals.ref1 r
  obtain ⟨w1, rfl, e1⟩ := vals1 rz
  obtain rfl : w1 = Value.ref f := e1
  obtain ⟨its, rv, hl, hz⟩ := I.list hs
  have hlen : its.length = ds.length := by rw [← rv.length, rl.length]
  have hds : ds.length ≤ 100000 := by have := ok.2.2.2.2; rwa [List.length_map] at this
  have hZ : its.length ≤ sizeLine := by rw [hlen]; exact size_ok hds
  have hr1 : Room k X.A.in1.in1 := (hr.in1).in1
  show wpAny _ _ (call (.builtin "sorted") [.ref a0] [(Str.ofString "key", .ref f)]) _ _ _
  refine PySem.W.sorted_of_sort hl.isList hZ (PyProof.Rows.ksk_s1 _ _) (fun _ => PyProof.Rows.ksk_l1 _ _) fun E' => ?_
  rw [PyProof.Rows.ksk_t1]
  -- where things stand: n the size at the start, a the copy, kS the keys
  obtain ⟨n, hn⟩ : ∃ n, n = s.heap.objs.size := ⟨_, rfl⟩
  have ho : (PySem.W.copyHeap s.heap its).get? (s.heap.objs.size + 1) = some (seqObj "list" its.toArray 0) := PySem.W.copyHeap_at s.heap its
  rw [← hn] at ho ⊢
  have n1 : X.s_0.heap.objs.size ≤ n := by rw [hn]; exact I.sz
  have n2 : X.env.locals < n := by rw [hn]; exact I.lt
  have n3 : ∀ x c, X.env.cells.lookup x = some c → c < n := fun x c e => by
    obtain ⟨v, o, ho, _⟩ := I.cell x c e
    rw [hn]; exact Heap.lt_size ho
  have n4 : ∀ p ∈ X.pn ++ pins, p.1 < n := fun p hp => by rw [hn]; exact Heap.lt_size (I.pin p hp).1
  obtain ⟨e1, ho1⟩ : ∃ e1, ((PySem.W.copyHeap s.heap its).update (n + 1) (Obj.mapSeq fun _ => (#[] : Array Value))).get? (n + 1) = some (seqObj "list" #[] e1) := ⟨_, get?_update_seq ho fun _ => #[]⟩
  unfold ksk_tree
  refine wpAny_bind (listItems_at ho rfl ?_)
  refine wpAny_bind (listUpdate_at ho rfl ?_ (by rw [List.size_toArray]; exact hZ) (Nat.zero_le _))
  refine wpAny_bind (seqEpoch_at ho1 rfl ?_)
  refine wpAny_bind (wpAny_newTuple ?_ (by show its.length ≤ _; exact hZ))
  refine wpAny_bind (wpAny_newList ?_ (Nat.zero_le _))
  refine wpAny_holding ?_
  have hsz1 : (PySem.W.copyHeap s.heap its).objs.size = n + 2 := by
    unfold PySem.W.copyHeap
    rw [size_push', Heap.size_update, size_push', ← hn]
  refine sort_rest (n := n) (a := n + 1) G hb hr1 hr.units n1 n2 n3 n4 ?J ?nk ?na ?hka ?hk1 (Nat.le_succ _) ?fk ?fa rv wd rl hm ok q
  case J =>
    have old : ∀ b o, s.heap.get? b = some o → ((((PySem.W.copyHeap s.heap its).update (n + 1) (Obj.mapSeq fun _ => (#[] : Array Value))).push (seqObj "tuple" its.toArray 0)).push (seqObj "list" #[] 0)).get? b = some o := fun b o q => by
      have hb : b ≠ n + 1 := fun z => by
        have l := Heap.lt_size q
        rw [z, ← hn] at l
        exact absurd l (Nat.not_lt.mpr (Nat.le_succ n))
      exact Heap.get?_push_of_some _ (Heap.get?_push_of_some _ (((Heap.SameBut.update _ _ _).2 b hb).trans (PySem.W.copyHeap_old q)))
    exact I.un (t' := s.toks) (Un.kept old) (I.hok.kept old)
  case nk => exact Heap.get?_push_size _ rfl
  case na => exact Heap.get?_push_of_some _ (Heap.get?_push_of_some _ ho1)
  case hka =>
    rw [size_push', Heap.size_update, hsz1]
    exact fun z => by
      have z' : (n + 2 + 1 : Nat) = n + 1 := z
      omega
  case hk1 =>
    rw [size_push', Heap.size_update, hsz1]
    omega
  case fk =>
    refine I.hok.fresh ?_
    rw [size_push', Heap.size_update, hsz1]
    omega
  case fa => exact I.hok.fresh (by omega)
section
variable {X : Cx} {E : EK} {e : Expr} {te : TE} {F : Env → Sto → Res D} {p pos kp npos : Pos}
open Classical in
noncomputable def fSortK (m : List D → Sto → Res D) (l : List D) (S : Sto) : Res D :=
  if h : ∃ key : D → D, (∀ d ∈ l, m [d] S = .ok (key d) S) ∧ encOk (l.map key) then .ok (.lst (l.mergeSort (PySem.W.dataLe false fun d => enc (h.choose d)))) S else .bad
@[simp] noncomputable def sortK (m : List D → Sto → Res D) (F : Env → Sto → Res D) : Env → Sto → Res D := fun ρ S => (F ρ S).bind fun d S1 => match vL S1 d with
  | some l => fSortK m l S1
  | none => .bad
theorem de_sortK {K : PySem.W.Frag} {k : Nat} {f : Addr} {fd : FuncData} {ps : List Str} {x : Str} {m : List D → Sto → Res D} (G : FnOk X.prog X.w X.K X.mg X.base (L2.CX X.prog X.w) k f fd ps (spF 1 m)) (hb : Binds X.K fd ps []) (hr : Room (k + 2) X.A) (hm : X.mg "sorted" = none) (hx : X.mg x = some (.ref f)) (h : DE X E e te F)
    (hK : X.K = K := by rfl) (hg : Gl X "sorted" := by rfl) (hgx : Gl X x := by rfl) (hdx : (x == ("__debug__" : Str)) = false := by decide)
    (hs : starEach [e] X.env = (false, eval e X.env) :: starEach [] X.env := by rfl) (he : backTo pos (starEach [e] X.env) = (false, eval e X.env) :: backTo pos (starEach [] X.env) := by rfl) (hpl : (backTo pos (starEach [e] X.env)).any (·.1) = false := by rfl)
    (hall : (backToKw pos (keywordEach [⟨some "key", .Name x npos, kp⟩] X.env)).all (·.1.isSome) = true := by rfl) (hnone : (backToKw pos (keywordEach [⟨some "key", .Name x npos, kp⟩] X.env)).any (·.1.isNone) = false := by rfl) (hks : (backToKw pos (keywordEach [⟨some "key", .Name x npos, kp⟩] X.env)).filterMap (·.1) = [Str.ofString "key"] := by rfl) :
    DE X E (.Call (.Name "sorted" p) [e] [⟨some "key", .Name x npos, kp⟩] pos) (tCKw (rSortK f K m) (tCons te tNil) (tCons (tC (.ref f)) tNil)) (sortK m F) := by
  subst hK
  refine ⟨pe_callBK (cr_sortedK G hb hr) hg hm (by decide +kernel) (pa_cons h.1 pa_nil hs) (pk_cons (pe_glob (v := .ref f) hgx hx rfl hdx) pk_nil) (by decide) (by decide) he hpl hall hnone hks, fun η B S σ ρ H w s => ?_⟩
  refine Ev.bind (T := te σ H) (T' := fun v H1 Q => rSortK f X.K m [v] [V.ref f] H1 Q) (h.2 η B S σ ρ H w s) fun d S1 v η1 B1 H1 n1 r1 => ?_
  cases hd : vL S1 d with
  | none => trivial
  | some l =>
  obtain ⟨a, xs, rfl, ha, ra⟩ := n1.wd.seeL r1 hd
  show EvD η1 B1 (E σ) _ H1 (fSortK m l S1)
  unfold fSortK
  split
  · rename_i hh
    have hsp := hh.choose_spec
    exact fun Q kk => ⟨a, xs, l, η1, B1, S1, hh.choose, rfl, rfl, .inl (.inl ha), n1.wd, ra, hsp.1, hsp.2, fun ys p η' B' H' nx hp ry => kk _ _ _ _ (nx.trans (nx.wd.new hp)) ⟨p, ys, rfl, nx.wd.cold_new hp, (nx.wd.new hp).rpL ry⟩⟩
  · trivial
/-- the new list is hot -/
def hotR : Res D → Res D
  | .ok (.lst l) S => .ok (.hot S.length) (S ++ [.lst l])
  | _ => .bad
@[simp] noncomputable def sortKH (m : List D → Sto → Res D) (F : Env → Sto → Res D) : Env → Sto → Res D := fun ρ S => (F ρ S).bind fun d S1 => match vL S1 d with
  | some l => hotR (fSortK m l S1)
  | none => .bad
theorem de_sortKH {K : PySem.W.Frag} {k : Nat} {f : Addr} {fd : FuncData} {ps : List Str} {x : Str} {m : List D → Sto → Res D} (G : FnOk X.prog X.w X.K X.mg X.base (L2.CX X.prog X.w) k f fd ps (spF 1 m)) (hb : Binds X.K fd ps []) (hr : Room (k + 2) X.A) (hm : X.mg "sorted" = none) (hx : X.mg x = some (.ref f)) (h : DE X E e te F)
    (hK : X.K = K := by rfl) (hg : Gl X "sorted" := by rfl) (hgx : Gl X x := by rfl) (hdx : (x == ("__debug__" : Str)) = false := by decide)
    (hs : starEach [e] X.env = (false, eval e X.env) :: starEach [] X.env := by rfl) (he : backTo pos (starEach [e] X.env) = (false, eval e X.env) :: backTo pos (starEach [] X.env) := by rfl) (hpl : (backTo pos (starEach [e] X.env)).any (·.1) = false := by rfl)
    (hall : (backToKw pos (keywordEach [⟨some "key", .Name x npos, kp⟩] X.env)).all (·.1.isSome) = true := by rfl) (hnone : (backToKw pos (keywordEach [⟨some "key", .Name x npos, kp⟩] X.env)).any (·.1.isNone) = false := by rfl) (hks : (backToKw pos (keywordEach [⟨some "key", .Name x npos, kp⟩] X.env)).filterMap (·.1) = [Str.ofString "key"] := by rfl) :
    DE X E (.Call (.Name "sorted" p) [e] [⟨some "key", .Name x npos, kp⟩] pos) (tCKw (rSortK f K m) (tCons te tNil) (tCons (tC (.ref f)) tNil)) (sortKH m F) := by
  subst hK
  refine ⟨pe_callBK (cr_sortedK G hb hr) hg hm (by decide +kernel) (pa_cons h.1 pa_nil hs) (pk_cons (pe_glob (v := .ref f) hgx hx rfl hdx) pk_nil) (by decide) (by decide) he hpl hall hnone hks, fun η B S σ ρ H w s => ?_⟩
  refine Ev.bind (T := te σ H) (T' := fun v H1 Q => rSortK f X.K m [v] [V.ref f] H1 Q) (h.2 η B S σ ρ H w s) fun d S1 v η1 B1 H1 n1 r1 => ?_
  cases hd : vL S1 d with
  | none => trivial
  | some l =>
  obtain ⟨a, xs, rfl, ha, ra⟩ := n1.wd.seeL r1 hd
  show EvD η1 B1 (E σ) _ H1 (hotR (fSortK m l S1))
  unfold fSortK
  split
  · rename_i hh
    have hsp := hh.choose_spec
    exact fun Q kk => ⟨a, xs, l, η1, B1, S1, hh.choose, rfl, rfl, .inl (.inl ha), n1.wd, ra, hsp.1, hsp.2, fun ys p η' B' H' nx hp ry => kk _ _ _ _ (nx.trans (nx.wd.alloc (u := .lst _) hp ⟨ys, upd_same, ((nx.wd.hide hp).rpL ry).up (up_snoc _ _)⟩)) ⟨p, rfl, nx.wd.at_new⟩⟩
  · trivial
end
theorem fSortK_eq {m : List D → Sto → Res D} {l : List D} {S : Sto} (key : D → D) (h : ∀ d ∈ l, m [d] S = .ok (key d) S) (ok : encOk (l.map key)) : fSortK m l S = .ok (.lst (l.mergeSort (PySem.W.dataLe false fun d => enc (key d)))) S := by
  have hh : ∃ key : D → D, (∀ d ∈ l, m [d] S = .ok (key d) S) ∧ encOk (l.map key) := ⟨key, h, ok⟩
  unfold fSortK
  rw [dif_pos hh]
  have hsp := hh.choose_spec
  have same : ∀ d ∈ l, hh.choose d = key d := fun d hd => by
    have := (hsp.1 d hd).symm.trans (h d hd)
    injection this
  have e := List.map_mergeSort (f := id) (l := l) (r := PySem.W.dataLe false fun d => enc (hh.choose d)) (s := PySem.W.dataLe false fun d => enc (key d)) (fun a ha b hb => by
    unfold PySem.W.dataLe PySem.W.sortLe
    simp [same a ha, same b hb])
  simp only [List.map_id] at e
  rw [e]
@[simp] theorem opEq_int (S : Sto) (i j : Int) : opEq S (.int i) (.int j) = some (.bl (decide (i = j))) := by
  simp [opEq, eqD, scD, scal]
end DL
set_option Elab.async false
set_option linter.all false
set_option maxRecDepth 100000
set_option maxHeartbeats 4000000
set_option autoImplicit false
namespace DL
open PySem PySem.Spec PyProof.Rows L2
/-! ### def f(*names) -/
def spS (m : List D → Sto → Res D) : Sp := fun vs H Q E => ∃ η B S ds, ds.length ≤ 100000 ∧ Wd η B S H ∧ RpL η (cold B H) ds vs ∧ PostR η B H Q E (m ds S)
def oneT (m : List D → Sto → Res D) : List D → Sto → Res D := fun ds S => match ds with | [.tup l] => m l S | _ => .bad
section
variable {P : Program} {w : World} {K : PySem.W.Frag} {mg : Str → Option Value} {base : Heap}
theorem fnd_star {x qual : Str} {st : Stmt} {f : Addr} {fd : FuncData} {N : List Str} {pv : Str} {k : Nat} (m : List D → Sto → Res D) (F : Fun K x qual st f fd) (Sc : FnScope N [pv] (defScope st))
    (hb : ∀ (kV doc pm : Value) (an : Option Addr) (cdv ct : Value) (rest : List Value), bindArgs (PySem.W.fnOf x qual (defArgs st) (defBody st) (defScope st) .none kV doc pm an cdv ct) ⟨rest, []⟩ = (newTuple rest >>= fun t => pure [(pv, t)]))
    (hbody : ∀ (cdv : Value) (A : Around) (outer : List PySem.Env) (s : Shared) (H : Hp) (E : XK), Room k (A.deeper (envOfC qual (defScope st) s.heap.objs.size f cdv)) →
      ∃ t Φ, DSs (cxOf (L2.CX P w) P w K mg base N qual (defScope st) f cdv A outer s H E) (fun _ => E) (defBody st) t Φ ∧ ∀ ds S, Imp (m ds S) (runF N Φ [.tup ds] S)) : FnR P w K mg base (L2.CX P w) (k + 1) f (spS m) := by
  obtain ⟨oc, od, kV, doc, pm, an, cdv, ct, osl, rfl, lk, hcd⟩ := F.ex
  refine (StX.fn_star (ps := []) (pv := pv) (sp := spF 1 (oneT m)) lk hcd Sc StX.cxUp (fun us rest hl => ?_) fun A outer s H vs Q E hr h => ?_).imp fun vs H Q E h => ?_
  · obtain rfl : us = [] := List.length_eq_zero_iff.mp hl
    exact hb kV doc pm an cdv ct rest
  · obtain ⟨η, B, S, ds, hl, wd, r, q⟩ := h
    obtain ⟨t, Φ, ⟨pss, so⟩, im⟩ := hbody cdv A outer s H E hr
    refine ⟨t, pss, sv_run so wd r ?_ q⟩
    match ds, hl with
    | [.tup l], _ => exact im l S
    | [.non], _ => exact .inl rfl
    | [.bl _], _ => exact .inl rfl
    | [.int _], _ => exact .inl rfl
    | [.str _], _ => exact .inl rfl
    | [.lst _], _ => exact .inl rfl
    | [.dic _], _ => exact .inl rfl
    | [.dit _], _ => exact .inl rfl
    | [.scr _], _ => exact .inl rfl
    | [.obj _ _], _ => exact .inl rfl
    | [.hot _], _ => exact .inl rfl
    | [.cls _], _ => exact .inl rfl
    | [.ty _], _ => exact .inl rfl
    | [.exn _ _ _], _ => exact .inl rfl
  · obtain ⟨η, B, S, ds, hl, wd, r, q⟩ := h
    refine ⟨[], vs, rfl, rfl, by rw [r.length]; exact size_ok hl, fun p hp => ?_⟩
    have nx := wd.new (o := .tup vs) hp
    refine ⟨η, B, S, [.tup ds], rfl, nx.wd, ⟨_, _, rfl, ⟨p, vs, rfl, wd.cold_new hp, nx.rpL r⟩, rfl⟩, ?_⟩
    show PostR η B (upd H p (.tup vs)) Q E (m ds S)
    cases e : m ds S with
    | bad => rw [e] at q; exact q
    | ok d S' => rw [e] at q; exact fun v η' B' H' n => q v η' B' H' (nx.trans n)
    | exc C fs S' =>
      rw [e] at q
      refine fun dd ws η' B' H' n h1 => q dd ws η' B' H' (nx.trans n) ?_
      by_cases z : dd = p
      · rw [z, upd_same] at h1; cases h1
      · rwa [upd_ne z] at h1
end
@[simp] def callS (m : List D → Sto → Res D) (F : Env → Sto → Res (List D)) : Env → Sto → Res D := fun ρ S => (F ρ S).bind fun ds S1 => if ds.length ≤ 100000 then m ds S1 else .bad
section
variable {X : Cx} {E : EK} {e : Expr} {es : List Expr} {pos p : Pos} {tas : TA} {Fs : Env → Sto → Res (List D)} {CX : CXT} {k : Nat} {m : List D → Sto → Res D} {f : Addr} {x : Str}
theorem ev_spS {m : List D → Sto → Res D} {E : XK} {η B : List Addr} {S : Sto} {H : Hp} {ds : List D} {vs : List V} (hl : ds.length ≤ 100000) (w : Wd η B S H) (r : RpL η (cold B H) ds vs) : EvD η B E (fun Q => spS m vs H Q E) H (m ds S) := by
  cases e : m ds S with
  | bad => trivial
  | ok d S' =>
    intro Q k
    refine ⟨η, B, S, ds, hl, w, r, ?_⟩
    rw [e]
    exact k
  | exc C fs S' =>
    intro Q k
    refine ⟨η, B, S, ds, hl, w, r, ?_⟩
    rw [e]
    exact k
theorem so_callS (ha : SoA E tas Fs) : SoE E (tCallS' (spS m) E tas) (callS m Fs) := fun η B S σ ρ H w s =>
  Ev.bind (T := tas σ H) (T' := fun vs H1 Q => spS m vs H1 Q (E σ)) (ha η B S σ ρ H w s) fun ds S1 vs η1 B1 H1 n1 r1 => by
    by_cases hl : ds.length ≤ 100000
    · rw [if_pos hl]
      exact ev_spS hl n1.wd r1
    · rw [if_neg hl]; trivial
theorem run_fnS {pins : List (Addr × Obj)} {σ : L2.St} {H : Hp} {s : Shared} {sp : Sp} {Q : VK} {us : List Value} {vs : List V} (F : FnR X.prog X.w X.K X.mg X.base CX k f sp) (hr : Room k X.A) (hx : PassS CX X E) (I : Inv X pins σ H s) (r : Vals vs us) (h : sp vs H Q (E σ)) :
    codeAny (model X.prog X.w) X.A (.call (.ref f) ⟨us, []⟩) (fun r s' => match r with | .ok (.ret v) => EP X pins σ Q v s' | .ok _ => False | .error e => X.xe e s') s := by
  refine codeAny_mono (F X.A X.stack s H us vs Q (E σ) hr I.env0 r h) fun r s' hq => ?_
  cases r with
  | error e => exact hx pins σ H s e s' I hq
  | ok fl =>
    cases fl with
    | ret u => exact I.after hq
    | next => exact False.elim hq
    | brk => exact False.elim hq
    | cont => exact False.elim hq
theorem de_callR (G : FnR X.prog X.w X.K X.mg X.base CX k f (spS m)) (hr : Room k X.A) (hm : X.mg x = some (.ref f)) (hk : PySem.W.keepIn X.K (.ref f) = true)
    (hx : PassS CX X E) (ha : DA X E (e :: es) tas Fs) (hg : Gl X x := by rfl) (hdb : (x == ("__debug__" : Str)) = false := by decide) (he : starEach (e :: es) X.env = (false, eval e X.env) :: starEach es X.env := by rfl) (hpl : (backTo pos (starEach es X.env)).any (·.1) = false := by rfl) :
    DE X E (.Call (.Name x p) (e :: es) [] pos) (tCallS' (spS m) E tas) (callS m Fs) := by
  refine ⟨⟨fun pins s σ H Q I h => ?_⟩, so_callS ha.2⟩
  refine wpAny_Call_Name_kw (ld_glob I hg hm ?_ hdb)
  refine PySem.W.callWith_K (h₀ := X.base) I.ok.mod.kin hk (thn (ha.1.run pos pins s σ H _ I h) fun us s1 ⟨vs, H1, I1, r, q⟩ => ⟨I1.kIn, ?_⟩) he hpl
  exact wpAny_call (run_fnS G hr hx I1 r q)
theorem de_callR0 (G : FnR X.prog X.w X.K X.mg X.base CX k f (spS m)) (hr : Room k X.A) (hm : X.mg x = some (.ref f)) (hk : PySem.W.keepIn X.K (.ref f) = true)
    (hx : PassS CX X E) (hg : Gl X x := by rfl) (hdb : (x == ("__debug__" : Str)) = false := by decide) :
    DE X E (.Call (.Name x p) [] [] pos) (tCallS' (spS m) E tNil) (callS m fNilA) := by
  refine ⟨⟨fun pins s σ H Q I h => ?_⟩, so_callS (da_nil (X := X)).2⟩
  refine wpAny_Call_Name_kw (ld_glob I hg hm ?_ hdb)
  exact PySem.W.callWith_K0 I.kIn hk (wpAny_call (run_fnS (us := []) G hr hx I .nil h))
end
end DL
set_option Elab.async false
set_option linter.all false
set_option maxRecDepth 100000
set_option maxHeartbeats 4000000
set_option autoImplicit false
namespace DL
open PySem PySem.Spec PyProof.Rows L2
/-! ### try .. except C as e -/
theorem Sl.clear {η : List Addr} {H : Hp} {σ : L2.St} {ρ : Env} {i : Nat} (s : Sl η H σ ρ) : Sl η H (σ.set i none) (ρ.set i none) := by
  refine ⟨by rw [List.length_set, List.length_set]; exact s.1, fun j e h => ?_⟩
  by_cases hj : i = j
  · subst hj
    rw [List.getElem?_set_self'] at h
    cases hq : ρ[i]? <;> rw [hq] at h <;> cases h
  · rw [List.getElem?_set_ne hj] at h ⊢
    exact s.2 j e h
@[simp] def wipeF (i : Nat) : Flow → Flow
  | .nx ρ S => .nx (ρ.set i none) S
  | .bk ρ S => .bk (ρ.set i none) S
  | .ct ρ S => .ct (ρ.set i none) S
  | .rt d S => .rt d S
  | _ => .bad
open Classical in
noncomputable def tryAs (sub : Addr → Option Bool) (i : Nat) (Φb : Env → Sto → Flow) (Φs : Addr → Value → Option Addr → Env → Sto → Flow) : Env → Sto → Flow := fun ρ S => match Φb ρ S with
  | .ex C fs ρ1 S1 => match sub C with
    | some true => if h : ∃ R, ∀ a dd, wipeF i (Φs a (.ref C) (some dd) (ρ1.set i (some (.exn a dd fs))) S1) = R then h.choose else .bad
    | some false => .ex C fs ρ1 S1
    | none => .bad
  | x => x
theorem tryAs_ex {sub : Addr → Option Bool} {i : Nat} {Φb : Env → Sto → Flow} {Φs : Addr → Value → Option Addr → Env → Sto → Flow} {ρ ρ1 : Env} {S S1 : Sto} {C : Addr} {fs : List (Str × D)} (R : Flow) (h : Φb ρ S = .ex C fs ρ1 S1) (hs : sub C = some true)
    (hR : ∀ a dd, wipeF i (Φs a (.ref C) (some dd) (ρ1.set i (some (.exn a dd fs))) S1) = R) : tryAs sub i Φb Φs ρ S = R := by
  have hh : ∃ R, ∀ a dd, wipeF i (Φs a (.ref C) (some dd) (ρ1.set i (some (.exn a dd fs))) S1) = R := ⟨R, hR⟩
  unfold tryAs
  rw [h]
  show (match sub C with | some true => _ | some false => _ | none => _) = R
  rw [hs]
  dsimp only
  rw [dif_pos hh]
  exact (hh.choose_spec 0 0).symm.trans (hR 0 0)
theorem tryAs_rt {sub : Addr → Option Bool} {i : Nat} {Φb : Env → Sto → Flow} {Φs : Addr → Value → Option Addr → Env → Sto → Flow} {ρ : Env} {S S1 : Sto} {d : D} (h : Φb ρ S = .rt d S1) : tryAs sub i Φb Φs ρ S = .rt d S1 := by
  unfold tryAs
  rw [h]
theorem tryAs_nx {sub : Addr → Option Bool} {i : Nat} {Φb : Env → Sto → Flow} {Φs : Addr → Value → Option Addr → Env → Sto → Flow} {ρ ρ1 : Env} {S S1 : Sto} (h : Φb ρ S = .nx ρ1 S1) : tryAs sub i Φb Φs ρ S = .nx ρ1 S1 := by
  unfold tryAs
  rw [h]
theorem sv_all {η B : List Addr} {E : EK} {T : Ends → Prop} {H : Hp} {ι : Type} {P : ι → Prop} {T' : ι → Ends → Prop} {R : Flow} (hz : ∀ D, (∀ g, P g → T' g D) → T D) (hS : ∀ g, P g → Sv η B E (T' g) H R) : Sv η B E T H R := by
  cases R with
  | bad => trivial
  | nx ρ S => exact fun D k => hz D fun g hg => hS g hg D k
  | bk ρ S => exact fun D k => hz D fun g hg => hS g hg D k
  | ct ρ S => exact fun D k => hz D fun g hg => hS g hg D k
  | rt d S => exact fun D k => hz D fun g hg => hS g hg D k
  | ex C fs ρ S => exact fun D k => hz D fun g hg => hS g hg D k
theorem sv_wipe {η B : List Addr} {E : EK} {T : Ends → Prop} {H H' : Hp} {η' B' : List Addr} {S1 : Sto} {fl : Flow} {i : Nat} (n : Nx η B η' B' S1 H H') (q : Sv η' B' EN T H' fl) :
    Sv η B E (fun D => T { nx := fun σ' H' => D.nx (σ'.set i none) H', rt := D.rt, bk := fun σ' H' => D.bk (σ'.set i none) H', ct := fun σ' H' => D.ct (σ'.set i none) H' }) H (wipeF i fl) := by
  cases fl with
  | bad => trivial
  | ex C fs ρ S => trivial
  | nx ρ S => exact fun D k => q _ fun σ2 η2 B2 H2 n2 s2 => k _ _ _ _ (n.trans n2) s2.clear
  | bk ρ S => exact fun D k => q _ fun σ2 η2 B2 H2 n2 s2 => k _ _ _ _ (n.trans n2) s2.clear
  | ct ρ S => exact fun D k => q _ fun σ2 η2 B2 H2 n2 s2 => k _ _ _ _ (n.trans n2) s2.clear
  | rt d S => exact fun D k => q _ fun v η2 B2 H2 n2 r2 => k _ _ _ _ (n.trans n2) r2
theorem so_tryAs {E : EK} {K : PySem.W.Frag} {c : Value} {i : Nat} {ts : Addr → Value → Option Addr → TS} {tb : WX → TS} {sub : Addr → Option Bool} {Φb : Env → Sto → Flow} {Φs : Addr → Value → Option Addr → Env → Sto → Flow}
    (hsub : ∀ C b, sub C = some b → PySem.W.exmOne K (.ref C) c = some b) (hb : ∀ W : WX, SoS (fun σ c d H => W c d σ H) (tb W) Φb) (hs : ∀ a cls d, SoS EN (ts a cls d) (Φs a cls d)) :
    SoS E (fun D σ H => tb (wAs K c i ts (fun cls d σ H => E σ cls d H) D) D σ H) (tryAs sub i Φb Φs) := fun η B S σ ρ H w s => by
  have z := fun D : Ends => hb (wAs K c i ts (fun cls d σ H => E σ cls d H) D) η B S σ ρ H w s
  unfold tryAs
  cases e : Φb ρ S with
  | bad => trivial
  | nx ρ1 S1 => exact fun D k => by have y := z D; rw [e] at y; exact y D k
  | bk ρ1 S1 => exact fun D k => by have y := z D; rw [e] at y; exact y D k
  | ct ρ1 S1 => exact fun D k => by have y := z D; rw [e] at y; exact y D k
  | rt d S1 => exact fun D k => by have y := z D; rw [e] at y; exact y D k
  | ex C fs ρ1 S1 =>
    show Sv η B E _ H (match sub C with | some true => _ | some false => _ | none => _)
    cases hc : sub C with
    | none => trivial
    | some b =>
      have hx := hsub C b hc
      cases b with
      | false =>
        intro D k
        have y := z D
        rw [e] at y
        exact y D fun σ' dd ws η' B' H' n h1 h2 h3 h4 => ⟨false, hx, nofun, fun _ => k σ' dd ws η' B' H' n h1 h2 h3 h4⟩
      | true =>
        dsimp only
        split
        · rename_i hh
          have hR := hh.choose_spec
          refine sv_all (ι := Addr × Addr × List (Str × V) × L2.St × Hp × List Addr × List Addr) (P := fun g => Nx η B g.2.2.2.2.2.1 g.2.2.2.2.2.2 S1 H g.2.2.2.2.1 ∧ H g.2.1 = none ∧ cold g.2.2.2.2.2.2 g.2.2.2.2.1 g.2.1 = some (.xd g.2.2.1) ∧ RpF g.2.2.2.2.2.1 (cold g.2.2.2.2.2.2 g.2.2.2.2.1) fs g.2.2.1 ∧ Sl g.2.2.2.2.2.1 (cold g.2.2.2.2.2.2 g.2.2.2.2.1) g.2.2.2.1 ρ1)
            (T' := fun g D => ts g.1 (.ref C) (some g.2.1) { nx := fun σ' H' => D.nx (σ'.set i none) H', rt := D.rt, bk := fun σ' H' => D.bk (σ'.set i none) H', ct := fun σ' H' => D.ct (σ'.set i none) H' } (g.2.2.2.1.set i (some (.ref g.1))) g.2.2.2.2.1) (fun D k => ?_) fun g hg => ?_
          · have y := z D
            rw [e] at y
            exact y D fun σ' dd ws η' B' H' n h1 h2 h3 h4 => ⟨true, hx, fun _ a ha => k (a, dd, ws, σ', H', η', B') ⟨n, h1, h2, h3, h4⟩, nofun⟩
          · obtain ⟨a, dd, ws, σ', H', η', B'⟩ := g
            obtain ⟨n, h1, h2, h3, h4⟩ := hg
            have q := hs a (.ref C) (some dd) η' B' S1 (σ'.set i (some (.ref a))) (ρ1.set i (some (.exn a dd fs))) H' n.wd (h4.set ⟨ws, rfl, h2, h3⟩)
            rw [← hR a dd]
            exact sv_wipe n q
        · trivial
section
variable {X : Cx} {E : EK}
theorem pass_tk {W : WX} (tk : Takes X W) : PassS (L2.CX X.prog X.w) X (fun σ c d H => W c d σ H) := fun pins σ H s e s' I c => tk e s' (XE.of_call I (fun cls d H' h => h) c)
theorem takes_any (hs : X.stack = X.env :: X.outer) (hf : X.env.frame = some X.env.locals) {W : WX} : ∃ xe, Takes (X.tr [] xe) W ∧ PassesOwn (model X.prog X.w) X.A X.env xe := by
  refine ⟨fun e s' => wpAny (model X.prog X.w) X.A (noteFrame e X.env) (fun _ s2 => wpAny (model X.prog X.w) X.A (setFlight e none) (fun _ _ => True) (fun _ _ => True) s2) (fun _ _ => True) s', ?_, PassesOwn.looking⟩
  rintro u s' ⟨a, B, sI, pins, σ, H, cls, d, rfl, J, nb, up, sky, na, os, ag, w⟩
  have hfr : X.A.frames = some (X.env :: X.outer) := by
    have q := J.ok.frames
    rw [← hs]
    exact q
  have sky' : Sky B (X.env :: X.outer) a (Zc cls d) X.env.locals s'.heap := by rw [← hs]; exact sky
  exact Sky.land Zc.steady hfr hf sky' fun _ _ _ => trivial
theorem ds_tryAs {x n : Str} {c : Value} {i : Nat} {body suite : List Stmt} {b₀ : Stmt} {np pos pos' : Pos} {tb : WX → TS} {ts : Addr → Value → Option Addr → TS} {Φb : Env → Sto → Flow} {Φs : Addr → Value → Option Addr → Env → Sto → Flow} {W : WX} (sub : Addr → Option Bool)
    (hN : X.N.Nodup) (hc : Names X x c) (tk : Takes X W) (hW : W = fun cls d σ H => E σ cls d H) (hsub : ∀ C b, sub C = some b → PySem.W.exmOne X.K (.ref C) c = some b)
    (hb : ∀ (W : WX) (pn : List (Addr × Obj)) (xe : Value → Shared → Prop), Takes (X.tr pn xe) W → PassesOwn (model X.prog X.w) X.A X.env xe → DSs (X.tr pn xe) (fun σ c d H => W c d σ H) body (tb W) Φb)
    (hsu : ∀ (a : Addr) (oe : Obj) (cls : Value) (d : Option Addr) (pn : List (Addr × Obj)), Zc cls d oe → (∃ vs, oe.data = .fields vs) → DSs (X.suite a ((a, oe) :: pn)) EN (b₀ :: suite) (ts a cls d) (Φs a cls d))
    (hs : X.stack = X.env :: X.outer := by rfl) (hf : X.env.frame = some X.env.locals := by rfl) (hi : X.N[i]? = some n := by rfl) (hln : X.env.kindOf n = some .local := by rfl) :
    DS X E (.Try body [.ExceptHandler (some (.Name x np)) (some n) (b₀ :: suite) pos'] [] [] pos) (fun D σ H => tb (wAs X.K c i ts (fun cls d σ H => E σ cls d H) D) D σ H) (tryAs sub i Φb Φs) := by
  subst hW
  refine ⟨ps_try_as hs hf hN hi hln hc tk (fun W pn xe tk po => (hb W pn xe tk po).1) fun a oe cls d pn hz hf => (hsu a oe cls d pn hz hf).1, so_tryAs hsub (fun W => ?_) fun a cls d => ?_⟩
  · obtain ⟨xe, tk', po⟩ := takes_any (X := X) hs hf (W := W)
    exact (hb W [] xe tk' po).2
  · exact (hsu a ⟨cls, d, .fields #[], #[]⟩ cls d [] ⟨rfl, rfl⟩ ⟨_, rfl⟩).2
end
end DL
set_option Elab.async false
set_option linter.all false
set_option maxRecDepth 100000
set_option maxHeartbeats 4000000
set_option autoImplicit false
namespace DL
open PySem PySem.Spec PyProof.Rows L2
/-! ### the caught error: its class and its fields -/
theorem kx_ga {P : Program} {w : World} {A : Around} {E : Value → Shared → Prop} {s : Shared} {K : PySem.W.Frag} {x C : Addr} {ox : Obj} {od : Option Obj} {Q : Option Value → Shared → Prop} (c : ExcC K C) (X : K.In s.heap) (I : PySem.W.InstAt s.heap x ox C od)
    (h : Q (some (.ref C)) { s with toks := s.toks + 1 }) : wpAny (model P w) A (getAttr? (.ref x) "__class__") Q E s := by
  have hf : PySem.W.findObj K C od "__class__" = some (.bind (.builtin "getset_descriptor.__get__") (.builtin "object.__class__")) := by
    obtain ⟨cd, hc, _⟩ := PySem.W.any_some c.hd
    unfold PySem.W.findObj
    simp [hc, c.ha, c.hn, c.ht]
  obtain ⟨hp, g, d, t, os⟩ := s
  have l0 := I.type (M := model P w)
  have l1 := PySem.W.looks_findIn (M := model P w) X c.hg
  have l2 := PySem.W.looks_findIn (M := model P w) X c.hk
  have l3 := PySem.W.looks_find (M := model P w) X I hf
  have sb : PySem.W.Looks (model P w) hp (isInstance (.ref x) (.type "BaseException")) true := l0.andThen (PySem.W.looks_subIn X c.hs)
  have n0 : (false && onTheHeap (Value.builtin "BaseException.__getattribute__")) = false := rfl
  have n1 : (onTheHeap (Value.ref C) && Value.builtin "BaseException.__getattribute__" == Value.builtin "object.__getattribute__") = false := by
    rw [show (Value.builtin "BaseException.__getattribute__" == Value.builtin "object.__getattribute__") = false by decide +kernel, Bool.and_false]
  unfold getAttr? getAttrBy? getAttrBy
  refine wpAny_bind (wpAny_mkText (wpAny_bind (wpAny_attempt (wpAny_holding (wpAny_bind (l0.at (wpAny_bind (l1.at ?_))))))))
  show wpAny _ _ (if (onTheHeap (Value.ref C) && Value.builtin "BaseException.__getattribute__" == Value.builtin "object.__getattribute__") = true then _ else _) _ _ _
  rw [n1, if_neg (by decide)]
  unfold getAttrByItsOwn hookBefore
  refine wpAny_bind ?_
  rw [if_pos (by rfl : onTheHeap (Value.ref C) = true)]
  refine l2.at (wpAny_bind (wpAny_attempt (wpAny_holding ?_)))
  unfold callGetattribute
  rw [n0, if_neg (by decide)]
  unfold boundAndCalled
  rw [PySem.F.excAttr_ValueError.ga.bind (.ref x)]
  refine wpAny_bind (wpAny_pure (wpAny_call (codeAny_call_builtin (args := ⟨[.ref x, .str "__class__" t], []⟩) PySem.F.excAttr_ValueError.ga.plain PySem.F.entry_bexc_ga ?_)))
  refine @PySem.W.check_slot (model P w) _ _ ⟨hp, g, d, t + 1, os⟩ "BaseException.__getattribute__" "BaseException" "__getattribute__" (.ref x) [.str "__class__" t] [] _ (by decide +kernel) (by decide +kernel) sb (PySem.F.args_bexc_ga _ _) ?_
  unfold Builtin.«object.__getattribute__»
  refine wpAny_bind (wpAny_of_eq (a := ((Value.ref x : Value), [Value.str "__class__" t])) (by first | rfl | (simp only [slotArgs]; rfl)) (wpAny_bind (wpAny_pure (wpAny_bind (l0.at (wpAny_bind (l3.at ?_)))))))
  show wpAny _ _ (holding [Value.builtin "object.__class__"] (call (.builtin "getset_descriptor.__get__") [.builtin "object.__class__", .ref x, .ref C]) >>= ret) _ _ _
  refine wpAny_bind (wpAny_holding (wpAny_call (PySem.W.class_get (s := ⟨hp, g, d, t + 1, os⟩) (ox := ox) (od := od) X I c.hm (wpAny_pure ?_))))
  show wpAny _ _ (handedOut (.ref C)) _ _ _
  rw [PySem.W.handedOut_of (v := .ref C) rfl]
  first | exact wpAny_pure (wpAny_pure h) | exact wpAny_pure h | exact wpAny_pure (wpAny_bind (wpAny_pure (wpAny_pure h)))
theorem kitx_any {K : PySem.W.Frag} {x C : Addr} {ox : Obj} (c : ExcC K C) : PySem.W.KitX K (.ref x) (.ref C) (fun h => ∃ od, PySem.W.InstAt h x ox C od) where
  ty := fun _ _ _ ⟨_, I⟩ => I.type
  it := fun M h X _ => by
    obtain ⟨cd, hc, _⟩ := PySem.W.any_some c.hd
    unfold PySem.W.clsIn at hc
    split at hc
    · rename_i ho
      exact (PySem.W.Looks.ld (X _ _ ho)).andThen .now
    · cases hc
  ne := (PySem.W.handS_kitx_exc (x := x) (ox := ox) c.hg c.hk c.hs c.hd c.ha c.hn c.ht c.hm).ne
  ca := fun X ⟨_, I⟩ k => kx_ga c X I k

/-- what isinstance answers for an instance of C -/
def OkX (K : PySem.W.Frag) (C : Addr) : D → Bool → Prop
  | .ty n, b => PySem.W.kitOne K (.ref C) (.type n) = some b
  | .cls c, b => PySem.W.kitOne K (.ref C) (.ref c) = some b
  | .tup l, b => ∃ cs : List Addr, l = cs.map .cls ∧ PySem.W.kitAny K (.ref C) (cs.map .ref) = some b
  | _, _ => False
def rIsX (K : PySem.W.Frag) (C a : Addr) (cls : Value) (d : Option Addr) : List V → Hp → VK → Prop := fun xs H Q => ∃ (dd : Addr) (ws : List (Str × V)) (c : V) (b : Bool), xs = [.ref a, c] ∧ cls = .ref C ∧ d = some dd ∧ H dd = some (.xd ws) ∧
  ((∃ cv, (∀ u, RelV c u → u = cv) ∧ PySem.W.kitOne K (.ref C) cv = some b) ∨ ∃ (tp : Addr) (cs : List Addr), c = .ref tp ∧ SqT K H tp (cs.map V.ref) ∧ PySem.W.kitAny K (.ref C) (cs.map .ref) = some b) ∧ Q (.bl b) H
theorem vals_refs : ∀ {cs : List Addr} {us : List Value}, Vals (cs.map V.ref) us → us = cs.map .ref
  | [], _, .nil => rfl
  | c :: cs, _, .cons a r => by
    rw [show _ = Value.ref c from a, vals_refs r]
    rfl
theorem cr_isX {X : Cx} {a C : Addr} {oe : Obj} {pn : List (Addr × Obj)} {cls : Value} {d : Option Addr} (c : ExcC X.K C) (hz : Zc cls d oe) (hf : ∃ vs, oe.data = .fields vs) : CallR (X.suite a ((a, oe) :: pn)) (.builtin "isinstance") (rIsX X.K C a cls d) := by
  intro pins s σ H xs us Q I r h
  obtain ⟨dd, ws, y, b, rfl, rfl, rfl, hd, hk, q⟩ := h
  cases r with
  | cons rx rr =>
    cases rr with
    | cons rt rr =>
      cases rr
      cases rx
      obtain ⟨hget, _⟩ := I.pin (a, oe) (List.mem_append.mpr (.inl List.mem_cons_self))
      obtain ⟨vs, hv⟩ := hf
      obtain ⟨mA, hns, _⟩ : ObjOk _ _ _ _ dd (.xd ws) := I.hok dd _ hd
      obtain ⟨od, ho, _⟩ := lookIn_ns hns
      have J : ∃ od, PySem.W.InstAt s.heap a oe C od := by
        refine ⟨some od, hget, hz.1, ?_, ?_⟩
        · unfold PySem.W.notCls
          rw [hv]
        · rw [hz.2]; exact ho
      have fin : ∀ tk, EP (X.suite a ((a, oe) :: pn)) pins σ Q (.bool b) { s with toks := tk } := fun tk => ⟨.bl b, H, I.kept (t' := tk) fun _ _ z => z, rfl, q⟩
      rcases hk with ⟨cv, hcv, e⟩ | ⟨tp, cs, rfl, ht, e⟩
      · have ec := hcv _ rt
        subst ec
        exact PySem.W.kia_one (kitx_any c) I.kIn J e (fun z => nomatch z) fin
      · cases rt
        obtain ⟨its, rv, ⟨o, hto, htc, n, htd⟩, _⟩ := I.tuple ht
        have ei := vals_refs rv
        subst ei
        obtain ⟨oc, odd, oda, osl⟩ := o
        dsimp only at htc htd
        subst htc htd
        exact PySem.W.kia_tup (kitx_any c) I.kIn J hto e (fun z => nomatch z) fin
open Classical in
noncomputable def fIsX (C a : Addr) (cls : Value) (d : Option Addr) (x : D) (b : Bool) (_ : Sto) : List D → Option D
  | [.exn a' dd fs, y] => if a' = a ∧ cls = .ref C ∧ d = some dd ∧ y = x then some (.bl b) else none
  | _ => none
theorem rp_refs {η : List Addr} {H : Hp} : ∀ {cs : List Addr} {xs : List V}, RpL η H (cs.map D.cls) xs → xs = cs.map V.ref
  | [], _, r => r
  | c :: cs, _, ⟨v, vs, e, rv, rl⟩ => by rw [e, show v = V.ref c from rv, rp_refs rl]; rfl
theorem v_isX {K : PySem.W.Frag} {C a : Addr} {cls : Value} {d : Option Addr} {x : D} {b : Bool} (hx : OkX K C x b) : VN (rIsX K C a cls d) (fIsX C a cls d x b) := fun E η B S H ds vs w r => by
  unfold fIsX
  split
  · rename_i a' dd fs y
    split
    · rename_i hh
      obtain ⟨rfl, rfl, rfl, rfl⟩ := hh
      obtain ⟨v, r2, rfl, ⟨ws, rfl, hd, _⟩, u, r3, rfl, ru, rfl⟩ := r
      intro Q k
      refine ⟨dd, ws, u, b, rfl, rfl, rfl, (cold_of hd).1, ?_, k _ _ _ _ w.refl rfl⟩
      cases y with
      | ty n => cases ru; exact .inl ⟨.type n, fun _ z => z, hx⟩
      | cls c => cases ru; exact .inl ⟨.ref c, fun _ z => z, hx⟩
      | tup l =>
        obtain ⟨cs, rfl, hk⟩ := hx
        obtain ⟨p, xs, rfl, hp, rl⟩ := ru
        rw [rp_refs rl] at hp
        exact .inr ⟨p, cs, rfl, .inl (.inl (cold_of hp).1), hk⟩
      | _ => exact hx.elim
    · trivial
  · trivial
section
variable {X : Cx} {a C : Addr} {oe : Obj} {pn : List (Addr × Obj)} {cls : Value} {d : Option Addr} {E : EK} {e : Expr} {te : TE} {F : Env → Sto → Res D}
theorem RpF.look {η : List Addr} {H : Hp} : ∀ {fs : List (Str × D)} {ws : List (Str × V)} {n : Str} {y : D}, RpF η H fs ws → fs.lookup n = some y → ∃ v, ws.lookup n = some v ∧ Rp η H y v
  | [], _, _, _, _, h => by cases h
  | (k, x) :: fs, _, n, y, ⟨v, vs, e, rv, rl⟩, h => by
    subst e
    rw [List.lookup_cons] at h ⊢
    cases hk : n == k <;> rw [hk] at h
    · exact RpF.look rl h
    · cases h; exact ⟨v, rfl, rv⟩
open Classical in
@[simp] noncomputable def fldX (C a : Addr) (cls : Value) (d : Option Addr) (n : Str) (F : Env → Sto → Res D) : Env → Sto → Res D := fun ρ S => (F ρ S).bind fun v S1 => match v with
  | .exn a' dd fs => if a' = a ∧ cls = .ref C ∧ d = some dd then lift (fs.lookup n) S1 else .bad
  | _ => .bad
theorem de_xf {pos : Pos} {n : Str} (T : XfC X.K C) (hno : PySem.W.findIn X.K (.ref C) n = some none) (hz : Zc cls d oe) (hf : ∃ vs, oe.data = .fields vs) (he : DE (X.suite a ((a, oe) :: pn)) E e te F) (hb : attributeBase e n X.env (eval e X.env) = eval e X.env := by rfl) :
    DE (X.suite a ((a, oe) :: pn)) E (.Attribute e n pos) (tXf a cls d C n te) (fldX C a cls d n F) := by
  refine ⟨pe_xf T hno hz hf he.1 hb, fun η B S σ ρ H w s => ?_⟩
  refine Ev.bind (T := te σ H) (T' := fun x H1 Q => x = .ref a ∧ cls = .ref C ∧ ∃ (dd : Addr) (fs : List (Str × V)) (v : V), d = some dd ∧ H1 dd = some (.xd fs) ∧ fs.lookup n = some v ∧ Q v H1) (he.2 η B S σ ρ H w s) fun y S1 v η1 B1 H1 n1 r1 => ?_
  cases y <;> first | trivial | skip
  rename_i a' dd fs
  dsimp only
  split
  · rename_i hh
    obtain ⟨rfl, rfl, rfl⟩ := hh
    obtain ⟨ws, rfl, hd, rf⟩ := r1
    cases hl : fs.lookup n with
    | none => trivial
    | some y =>
      obtain ⟨v, hv, rv⟩ := RpF.look rf hl
      exact fun Q k => ⟨rfl, rfl, dd, ws, v, rfl, (cold_of hd).1, hv, k v η1 B1 H1 n1.wd.refl rv⟩
  · trivial
end
def subOf (C0 : Addr) : Addr → Option Bool := fun C => if C = C0 then some true else none
@[simp] theorem subOf_self (C : Addr) : subOf C C = some true := if_pos rfl
theorem subOf_ok {K : PySem.W.Frag} {C0 : Addr} (h : PySem.W.exmOne K (.ref C0) (.ref C0) = some true) : ∀ C b, subOf C0 C = some b → PySem.W.exmOne K (.ref C) (.ref C0) = some b := fun C b e => by
  unfold subOf at e
  split at e
  · rename_i z
    cases e
    rw [z]; exact h
  · cases e
theorem tryAs_bad {sub : Addr → Option Bool} {i : Nat} {Φb : Env → Sto → Flow} {Φs : Addr → Value → Option Addr → Env → Sto → Flow} {ρ : Env} {S : Sto} (h : Φb ρ S = .bad) : tryAs sub i Φb Φs ρ S = .bad := by
  unfold tryAs
  rw [h]
end DL
set_option Elab.async false
set_option linter.all false
set_option maxRecDepth 100000
set_option maxHeartbeats 4000000
set_option autoImplicit false
namespace DL
open PySem PySem.Spec PyProof.Rows L2
/-! ### repr of data -/
def rRepr (K : PySem.W.Frag) : List V → Hp → VK → Prop := fun xs H Q => ∃ x d, xs = [x] ∧ Dp K H x d ∧ d.showable = true ∧ d.hasDict = false ∧ d.depth ≤ 60 ∧ d.shown.length ≤ sizeLine ∧ Q (.str d.shown) H
theorem cr_repr {X : Cx} {K : PySem.W.Frag} (hG : X.A.guards = some []) (hu : X.A.units + 64 < cLine) (hK : X.K = K := by rfl) : CallR X (.builtin "repr") (rRepr K) := by
  subst hK
  intro pins s σ H xs us Q I r h
  obtain ⟨x, d, rfl, hd, hs, hn, hp, hz, q⟩ := h
  obtain ⟨u, rfl, ru⟩ := vals1 r
  have hd' := hd
  cases hd with
  | non => cases ru; exact PySem.P.repr_of_none ⟨.str _, H, I.tok _, ⟨_, rfl⟩, q⟩
  | bl b => cases ru; exact PySem.P.repr_of_bool ⟨.str _, H, I.tok _, ⟨_, rfl⟩, q⟩
  | int i => obtain ⟨t, rfl⟩ := ru; exact PySem.P.repr_of_int (by simpa [PyData.showable] using hs) ⟨.str _, H, I.tok _, ⟨_, rfl⟩, q⟩
  | str x => obtain ⟨t, rfl⟩ := ru; exact PySem.P.repr_of_str ⟨.str _, H, I.tok _, ⟨_, rfl⟩, q⟩ hz
  | lst h1 h2 =>
    cases ru
    obtain ⟨as, rd⟩ := Dp.reads I _ _ (Value.ref _) hd' rfl
    exact repr_of_reads' rd hs (fun z => by rw [hn] at z; cases z) hG (by omega) (fun _ _ z => z) (fun h' u tk hk => ⟨.str _, H, I.kept hk, ⟨_, rfl⟩, q⟩) hz
  | tup h1 h2 =>
    cases ru
    obtain ⟨as, rd⟩ := Dp.reads I _ _ (Value.ref _) hd' rfl
    exact repr_of_reads' rd hs (fun z => by rw [hn] at z; cases z) hG (by omega) (fun _ _ z => z) (fun h' u tk hk => ⟨.str _, H, I.kept hk, ⟨_, rfl⟩, q⟩) hz
def okShow (p : PyData) : Bool := p.showable && !p.hasDict && decide (p.depth ≤ 60) && decide (p.shown.length ≤ sizeLine)
def fRepr (S : Sto) : List D → Option D
  | [x] => (toPy (cl S x)).bind fun p => if okShow p = true then some (.str p.shown) else none
  | _ => none
theorem v_repr (K : PySem.W.Frag) : VN (rRepr K) fRepr := fun E η B S H ds vs w r => by
  unfold fRepr
  split
  · rename_i x
    obtain ⟨v, r2, rfl, rx, rfl⟩ := r
    cases e : toPy (cl S x) with
    | none => trivial
    | some p =>
      show EvD η B E _ H (lift (if okShow p = true then some (.str p.shown) else none) S)
      by_cases ho : okShow p = true
      · rw [if_pos ho]
        unfold okShow at ho
        simp only [Bool.and_eq_true, decide_eq_true_eq, Bool.not_eq_true'] at ho
        obtain ⟨⟨⟨h1, h2⟩, h3⟩, h4⟩ := ho
        exact fun Q k => ⟨v, p, rfl, rp_dpS w rx e, h1, h2, h3, h4, k _ _ _ _ w.refl rfl⟩
      · rw [if_neg ho]; trivial
  · trivial
/-! ### x in l, data of any depth -/
theorem or_in {X : Cx} {K : PySem.W.Frag} (hu : X.A.units + 65 < cLine) (hK : X.K = K := by rfl) : OpR X (compareOp .In) (rInD K) := by subst hK; exact op_inD hu
theorem or_notin {X : Cx} {K : PySem.W.Frag} (hu : X.A.units + 65 < cLine) (hK : X.K = K := by rfl) : OpR X (compareOp .NotIn) (rNotInD K) := by subst hK; exact op_notInD hu
def inD (x : D) : D → Option Bool
  | .lst l => (toPy x).bind fun p => (toPys l).bind fun ps => if SeqAt.shaped p = true ∧ SeqAt.shaped (.list ps) = true then some (ps.any fun z => PyData.eqv z p) else none
  | _ => none
def opIn (S : Sto) (x y : D) : Option D := (inD (cl S x) (cl S y)).map .bl
def opNotIn (S : Sto) (x y : D) : Option D := (inD (cl S x) (cl S y)).map fun b => .bl (!b)
theorem inD_some {x y : D} {b : Bool} (h : inD x y = some b) : ∃ l p ps, y = .lst l ∧ toPy x = some p ∧ toPys l = some ps ∧ SeqAt.shaped p = true ∧ SeqAt.shaped (.list ps) = true ∧ b = ps.any fun z => PyData.eqv z p := by
  cases y <;> first | (cases h; done) | skip
  rename_i l
  have h' : ((toPy x).bind fun p => (toPys l).bind fun ps => if SeqAt.shaped p = true ∧ SeqAt.shaped (.list ps) = true then some (ps.any fun z => PyData.eqv z p) else none) = some b := h
  obtain ⟨p, h1, h'⟩ := Option.bind_eq_some_iff.mp h'
  obtain ⟨ps, h2, h'⟩ := Option.bind_eq_some_iff.mp h'
  split at h'
  · rename_i hh
    cases h'
    exact ⟨l, p, ps, rfl, h1, h2, hh.1, hh.2, rfl⟩
  · cases h'
theorem v_in (K : PySem.W.Frag) : V2 (rInD K) opIn := fun E η B S H x y u v w rx ry => by
  unfold opIn
  cases e : inD (cl S x) (cl S y) with
  | none => trivial
  | some b =>
    obtain ⟨l, p, ps, hy, h1, h2, s1, s2, rfl⟩ := inD_some e
    have hl : toPy (cl S y) = some (.list ps) := by rw [hy]; show (toPys l).map PyData.list = _; rw [h2]; rfl
    exact fun Q k => ⟨p, ps, rp_dpS w rx h1, rp_dpS w ry hl, s1, s2, k _ _ _ _ w.refl rfl⟩
theorem v_notin (K : PySem.W.Frag) : V2 (rNotInD K) opNotIn := fun E η B S H x y u v w rx ry => by
  unfold opNotIn
  cases e : inD (cl S x) (cl S y) with
  | none => trivial
  | some b =>
    obtain ⟨l, p, ps, hy, h1, h2, s1, s2, rfl⟩ := inD_some e
    have hl : toPy (cl S y) = some (.list ps) := by rw [hy]; show (toPys l).map PyData.list = _; rw [h2]; rfl
    exact fun Q k => ⟨p, ps, rp_dpS w rx h1, rp_dpS w ry hl, s1, s2, k _ _ _ _ w.refl rfl⟩
/-! ### a def that is called where no repr is under way -/
def FnG (P : Program) (w : World) (K : PySem.W.Frag) (mg : Str → Option Value) (base : Heap) (CX : CXT) (k : Nat) (f : Addr) (sp : Sp) : Prop :=
  ∀ (A : Around) (outer : List PySem.Env) (s : Shared) (H : Hp) (us : List Value) (vs : List V) (Q : VK) (E : XK), Room k A → A.guards = some [] → Env0 P w K mg base A outer s H → Vals vs us → sp vs H Q E →
    codeAny (model P w) A (.call (.ref f) ⟨us, []⟩) (CR CX outer P w H s Q E) s
section
variable {P : Program} {w : World} {K : PySem.W.Frag} {mg : Str → Option Value} {base : Heap}
theorem fnd_g {x qual : Str} {st : Stmt} {f : Addr} {fd : FuncData} {N ps : List Str} {k : Nat} (m : List D → Sto → Res D) (F : Fun K x qual st f fd) (Sc : FnScope N ps (defScope st)) (hb : Binds K fd ps [])
    (hbody : ∀ (cdv : Value) (A : Around) (outer : List PySem.Env) (s : Shared) (H : Hp) (E : XK), Room k (A.deeper (envOfC qual (defScope st) s.heap.objs.size f cdv)) → A.guards = some [] →
      ∃ t Φ, DSs (cxOf (L2.CX P w) P w K mg base N qual (defScope st) f cdv A outer s H E) (fun _ => E) (defBody st) t Φ ∧ ∀ ds S, ds.length = ps.length → Imp (m ds S) (runF N Φ ds S)) : FnG P w K mg base (L2.CX P w) (k + 1) f (spF ps.length m) := by
  intro A outer s H us vs Q E hr hG e0 r h
  obtain ⟨oc, od, kV, doc, pm, an, cdv, ct, osl, rfl, lk, hcd⟩ := F.ex
  obtain ⟨η, B, S, ds, hl, wd, rl, q⟩ := h
  have hvl : vs.length = ps.length := by rw [rl.length, hl]
  have hul : us.length = ps.length := by rw [← r.length]; exact hvl
  refine StX.run_bnd lk hcd Sc hr e0 (G := fun xs H2 => vs = xs ∧ H = H2) (fun A' Ex Q' hq => ?_) fun s2 H2 xs ⟨ex, eH⟩ hr' => ?_
  · have bt := hb s us (e0.mod.kin.keeps fun b o e => (e0.bs b o e).1) (by rw [List.append_nil]; exact hul)
    rw [List.append_nil] at bt
    exact bt _ _ _ _ (hq s H vs us e0 Un.refl rfl (fun _ _ z => z) r hvl ⟨rfl, rfl⟩)
  · subst ex eH
    obtain ⟨t, Φ, ⟨pss, so⟩, im⟩ := hbody cdv A outer s2 _ E hr' hG
    exact ⟨t, pss, sv_run so wd rl (im ds S hl) q⟩
theorem FnG.mono {CX : CXT} {j k : Nat} {f : Addr} {sp : Sp} (F : FnG P w K mg base CX j f sp) (h : j ≤ k) : FnG P w K mg base CX k f sp := fun A outer s H us vs Q E hr => F A outer s H us vs Q E (hr.mono h)
end
section
variable {X : Cx} {E : EK} {e : Expr} {es : List Expr} {pos p : Pos} {tas : TA} {Fs : Env → Sto → Res (List D)} {CX : CXT} {k n : Nat} {m : List D → Sto → Res D} {f : Addr} {x : Str}
theorem de_callG (G : FnG X.prog X.w X.K X.mg X.base CX k f (spF n m)) (hr : Room k X.A) (hG : X.A.guards = some []) (hm : X.mg x = some (.ref f)) (hk : PySem.W.keepIn X.K (.ref f) = true)
    (hx : PassS CX X E) (ha : DA X E (e :: es) tas Fs) (hg : Gl X x := by rfl) (hdb : (x == ("__debug__" : Str)) = false := by decide) (he : starEach (e :: es) X.env = (false, eval e X.env) :: starEach es X.env := by rfl) (hpl : (backTo pos (starEach es X.env)).any (·.1) = false := by rfl) :
    DE X E (.Call (.Name x p) (e :: es) [] pos) (tCallS' (spF n m) E tas) (callF n m Fs) := by
  refine ⟨⟨fun pins s σ H Q I h => ?_⟩, so_call ha.2⟩
  refine wpAny_Call_Name_kw (ld_glob I hg hm ?_ hdb)
  refine PySem.W.callWith_K (h₀ := X.base) I.ok.mod.kin hk (thn (ha.1.run pos pins s σ H _ I h) fun us s1 ⟨vs, H1, I1, r, q⟩ => ⟨I1.kIn, ?_⟩) he hpl
  refine wpAny_call (codeAny_mono (G X.A X.stack s1 H1 us vs Q (E σ) hr hG I1.env0 r q) fun r s' hq => ?_)
  cases r with
  | error e => exact hx pins σ H1 s1 e s' I1 hq
  | ok fl =>
    cases fl with
    | ret u => exact I1.after hq
    | next => exact False.elim hq
    | brk => exact False.elim hq
    | cont => exact False.elim hq
end
end DL
set_option Elab.async false
set_option linter.all false
set_option maxRecDepth 100000
set_option maxHeartbeats 4000000
set_option autoImplicit false
namespace DL
open PySem PySem.Spec PyProof.Rows L2
/-! ### the end: the law's def is called with the script, no repr under way -/
/-- no list stands in the written part -/
def noL (K : PySem.W.Frag) : Bool := K.all fun q => match q.2.cls with
  | .type n => n != "list"
  | _ => true
theorem noL_look : ∀ {K : PySem.W.Frag} {a : Addr} {o : Obj}, noL K = true → K.lookup a = some o → o.cls ≠ .type "list"
  | [], _, _, _, h => by cases h
  | (b, u) :: K, a, o, hn, h => by
    unfold noL at hn
    rw [List.all_cons, Bool.and_eq_true] at hn
    rw [List.lookup_cons] at h
    cases hb : a == b <;> rw [hb] at h
    · exact noL_look (K := K) hn.2 h
    · cases h
      intro e
      have q := hn.1
      rw [e] at q
      exact absurd q (by decide)
def scriptH (a : Addr) (ob : Obj) (ns : List Int) : Hp := fun b => if b = a then some (.frz ob (.lst (ns.map V.int))) else none
theorem end_call {P : Program} {w : World} {K : PySem.W.Frag} {mg mb : Str → Option Value} {k : Nat} {fa a : Addr} {m : List D → Sto → Res D} {t : Shared} {vs : List Value} {ns : List Int} (nK : noL K = true)
    (KX : K.In t.heap) (G1 : t.heap.Ns mainGlobals mg) (G2 : t.heap.Ns builtinsNs mb) (G3 : ∀ x : Str, x ≠ "__name__" → mb x = bootBuiltins x) (G4 : t.heap.NoLimit) (G5 : t.gens = #[])
    (ha : t.heap.get? a = some { cls := .type "list", data := .seq vs.toArray }) (hi : IntsAre vs ns) (hl : ns.length ≤ sizeLine) (room : Room k callerA)
    (F : ∀ bs : Heap, K.In bs → bs.Ns mainGlobals mg → FnG P w K mg bs (L2.CX P w) k fa (spF 1 m)) (hm : ∃ S', m [.scr ns] [] = .ok (.bl true) S') :
    codeAny (model P w) callerA (.call (.ref fa) ⟨[.ref a], []⟩) (fun r u => r = .ok (.ret (.bool true)) ∧ OldK t.heap u.heap ∧ u.os = t.os ∧ AllBare u.gens) t := by
  obtain ⟨ob, hob⟩ : ∃ ob : Obj, ob = { cls := .type "list", data := .seq vs.toArray } := ⟨_, rfl⟩
  rw [← hob] at ha
  have ocls : ob.cls = .type "list" := by rw [hob]
  have hKa : K.lookup a = none := by
    cases q : K.lookup a with
    | none => rfl
    | some o =>
      have e := KX a o q
      rw [ha] at e
      cases e
      exact absurd ocls (noL_look nK q)
  have at1 : scriptH a ob ns a = some (.frz ob (.lst (ns.map V.int))) := if_pos rfl
  have at2 : ∀ b, b ≠ a → scriptH a ob ns b = none := fun b e => if_neg e
  have nd : ∀ {b : Addr} {o : Obj} {es : Array DictEntry} {ep : Nat}, t.heap.get? b = some o → o.data = .dict es ep → b ≠ a := fun {b o es ep} e d z => by
    subst z
    rw [ha] at e
    cases e
    rw [hob] at d
    cases d
  have keepNs : ∀ {b : Addr} {f : Str → Option Value}, t.heap.Ns b f → (hidT t.heap (scriptH a ob ns)).Ns b f := fun {b f} ⟨o, es, ep, e, d, r⟩ => ⟨o, es, ep, hidT_get e (at2 _ (nd e d)), d, r⟩
  have kIn : K.In (hidT t.heap (scriptH a ob ns)) := fun b o e => hidT_get (KX b o e) (at2 b fun z => by
    rw [z, hKa] at e
    cases e)
  have hokS : HOk P w (scriptH a ob ns) t.heap := fun b u z => by
    by_cases e : b = a
    · subst e
      rw [at1] at z
      cases z
      refine ⟨ha, by rw [List.length_map]; exact hl, vs, ?_⟩
      rw [ha, hob]
      exact ⟨_, vals_ints hi, rfl⟩
    · rw [at2 b e] at z
      cases z
  have e0 : Env0 P w K mg (hidT t.heap (scriptH a ob ns)) callerA [] t (scriptH a ob ns) := by
    refine ⟨rfl, ⟨kIn, keepNs G1, ⟨mb, keepNs G2, G3⟩, ?_⟩, fun b o e => of_hidT e, Nat.le_of_eq (hidT_size _ _), trivial, fun b hb => ?_, hokS, .of_eq G5⟩
    · obtain ⟨mc, h1, h2⟩ := G4
      exact ⟨mc, keepNs h1, h2⟩
    · exact absurd (show b ∈ ([] : List Addr) from hb) (by simp)
  have pr : spF 1 m [.ref a] (scriptH a ob ns) (fun v _ => v = .bl true) (fun _ _ _ => False) := by
    refine ⟨[], [], [], [.scr ns], rfl, ⟨nofun, nofun, List.nodup_nil, rfl, fun i b o h => ?_⟩, ⟨_, _, rfl, ⟨a, ob, rfl, cold_in at1 (by simp)⟩, rfl⟩, ?_⟩
    · simp at h
    · obtain ⟨S', h⟩ := hm
      rw [h]
      exact fun v _ _ _ _ r => r
  refine codeAny_mono (F _ kIn (keepNs G1) callerA [] t (scriptH a ob ns) [.ref a] [.ref a] _ _ room rfl e0 (.cons rfl .nil) pr) fun r u h => ?_
  cases r with
  | error e =>
    obtain ⟨_, _, _, _, _, _, _, _, _, _, _, _, z⟩ := h
    exact z.elim
  | ok fl =>
    cases fl with
    | next => exact False.elim h
    | brk => exact False.elim h
    | cont => exact False.elim h
    | ret y =>
      obtain ⟨v, H', hos, bare, un, hok', rv, q⟩ := h
      have q' : v = .bl true := q
      subst q'
      obtain rfl : y = Value.bool true := rv
      refine ⟨rfl, OldK.of_keep fun b o e => ?_, hos, bare⟩
      by_cases z : b = a
      · subst z
        have z2 := un.frzs b _ _ at1
        obtain ⟨e2, _⟩ := hok' b _ z2
        rw [e] at ha
        cases ha
        exact e2
      · exact un.keep b o e (at2 b z) (fun y => absurd (show b ∈ ([] : List Addr) from y) (by simp)) (by simp)
theorem end_walk {l : PySem.W.OpenLaw} {n k : Nat} {q : Program} {loose : List Str} {XP : (Str → Option Value) → Heap → Prop} {YP : World → Heap → Prop} {d : DefRec} {K : Params → PySem.W.Frag}
    (hn : l.most = some n) (hn2 : n ≤ sizeLine) (hdf : d.params.defaults = []) (room : Room k callerA) (hY : ∀ (w : World) (h : Heap), YP w h → (K w.params).In h) (nK : ∀ p, noL (K p) = true)
    (F : ∀ (w : World) (mg : Str → Option Value) (fa : Addr) (h : Heap), (K w.params).In h → h.Ns mainGlobals mg → mg d.name = some (.ref fa) →
      ∃ m : List D → Sto → Res D, (∀ bs : Heap, (K w.params).In bs → bs.Ns mainGlobals mg → FnG l.prog w (K w.params) mg bs (L2.CX l.prog w) k fa (spF 1 m)) ∧ ∀ ns : List Int, ns.length ≤ n → ∃ S', m [.scr ns] [] = .ok (.bl true) S') :
    PySem.W.WalkO q loose XP YP l.row.toRowW d [] (fun f vs => PySem.call f vs) := by
  refine Att.attach_call hn hdf fun w s₀ t mg mb fa o pm cd doc a vs ns G Y ho hd hcd hmg hobj hints hlen hg => ?_
  obtain ⟨m, hF, hm⟩ := F w mg fa _ (hY w _ Y) G.T.g hmg
  exact end_call (nK _) (hY w _ Y) G.T.g G.T.b G.T.builtins G.T.nolimit hg hobj hints (Nat.le_trans hlen hn2) room hF (hm ns hlen)
end DL
set_option Elab.async false
set_option linter.all false
set_option maxRecDepth 100000
set_option maxHeartbeats 4000000
set_option autoImplicit false
namespace DL
open PySem PySem.Spec PyProof.Rows L2
/-! ### hot lists made, grown -/
section
variable {X : Cx} {E : EK} {e o : Expr} {es : List Expr} {pos p apos : Pos} {te to : TE} {tas : TA} {Fs : Env → Sto → Res (List D)} {F Fo : Env → Sto → Res D}
@[simp] def mkH (ds : List D) (S : Sto) : Res D := if ds.length ≤ 100000 then .ok (.hot S.length) (S ++ [.lst ds]) else .bad
@[simp] def dispH (F : Env → Sto → Res (List D)) : Env → Sto → Res D := fun ρ S => (F ρ S).bind fun ds S1 => mkH ds S1
theorem de_lstH (h : DA X E es tas Fs) : DE X E (.List es pos) (tLst tas) (dispH Fs) := by
  obtain ⟨p, q⟩ := h
  refine ⟨pe_lst p, fun η B S σ ρ H w s => Ev.bind (T := tas σ H) (T' := fun (xs : List V) (H1 : Hp) (Q : VK) => xs.length ≤ sizeLine ∧ ∀ p, H1 p = none → Q (V.ref p) (upd H1 p (.lst xs))) (q η B S σ ρ H w s) fun ds S1 xs η1 B1 H1 n1 r1 => ?_⟩
  unfold mkH
  split
  · rename_i c
    exact fun Q k => ⟨by rw [r1.length]; exact size_ok c, fun p hp => k _ _ _ _ (n1.wd.alloc (u := .lst _) hp ⟨xs, upd_same, ((n1.wd.hide hp).rpL r1).up (up_snoc _ _)⟩) ⟨p, rfl, n1.wd.at_new⟩⟩
  · trivial
@[simp] def fAppend (Fo F : Env → Sto → Res D) : Env → Sto → Res D := fun ρ S => (Fo ρ S).bind fun x S1 => match x with
  | .hot i => (match hotL S1 i with
    | some _ => (F ρ S1).bind fun d S2 => (match hotL S2 i with
      | some l => if l.length < 100000 then .ok .non (S2.set i (.lst (l ++ [d]))) else .bad
      | none => .bad)
    | none => .bad)
  | _ => .bad
theorem de_append {K : PySem.W.Frag} (ho : DE X E o to Fo) (he : DE X E e te F) (hK : X.K = K := by rfl) (hbase : attributeBase o "append" X.env (eval o X.env) = eval o X.env := by rfl)
    (hfew : ((backTo pos (starEach [e] X.env)).all (fun x => !x.1) && (backToKw pos (keywordEach [] X.env)).all (fun x => x.1.isSome) && decide ([e].length + ([] : List Keyword).length + (if ([] : List Keyword).isEmpty then 0 else 1) < 30)) = true := by rfl)
    (hline : (apos.endLine == pos.line) = true := by rfl) (hs : starEach [e] X.env = (false, eval e X.env) :: starEach [] X.env := by rfl) (hpl : (backTo pos (starEach [] X.env)).any (·.1) = false := by rfl) :
    DE X E (.Call (.Attribute o "append" apos) [e] [] pos) (tBM K "list" rAppend to (tCons te tNil)) (fAppend Fo F) := by
  subst hK
  refine ⟨pe_bm PySem.F.plainAttrs_list PySem.F.slot_list_append PySem.F.type_list_append mt_append ho.1 (pa_cons he.1 pa_nil hs) hbase hfew hline hs hpl, fun η B S σ ρ H w s => ?_⟩
  refine Ev.bind (T := to σ H) (T' := fun x H1 Q => tyV X.K "list" x H1 ∧ te σ H1 fun y H2 => rAppend x [y] H2 Q) (ho.2 η B S σ ρ H w s) fun x S1 u η1 B1 H1 n1 r1 => ?_
  cases x <;> first | trivial | skip
  rename_i i
  dsimp only
  cases h0 : hotL S1 i with
  | none => trivial
  | some l0 =>
  obtain ⟨q, rfl, hq⟩ := r1
  obtain ⟨xs0, hx0, _⟩ := n1.wd.hot i q _ hq (hotL_eq h0)
  have z := Ev.bind (R := fun η Hc d v => Rp η Hc d v) (R' := fun η Hc d v => Rp η Hc d v) (T := te σ H1) (T' := fun y H2 Q => rAppend (V.ref q) [y] H2 Q) (k := fun d S2 => (match hotL S2 i with
      | some l => if l.length < 100000 then Res.ok D.non (S2.set i (.lst (l ++ [d]))) else .bad
      | none => .bad)) (he.2 η1 B1 S1 σ ρ H1 n1.wd (n1.sl s)) fun y S2 v η2 B2 H2 n2 r2 => by
    split
    · rename_i l hl
      split
      · rename_i c
        obtain ⟨xs, hx, rl⟩ := n2.wd.hot i q _ (n2.up _ _ hq) (hotL_eq hl)
        exact fun Q k => ⟨q, xs, v, rfl, rfl, hx, by rw [rl.length]; exact Nat.lt_of_lt_of_le c (by decide), k _ _ _ _ (n2.wd.setHot (n2.up _ _ hq) (u := .lst _) ⟨_, upd_same, rl.snoc r2⟩) rfl⟩
      · trivial
    · trivial
  revert z
  generalize (Res.bind (F ρ S1) fun d S2 => (match hotL S2 i with
      | some l => if l.length < 100000 then Res.ok D.non (S2.set i (.lst (l ++ [d]))) else .bad
      | none => .bad)) = rr
  intro z
  cases rr with
  | bad => trivial
  | ok d S' => exact fun Q k => ⟨.inl ⟨rfl, _, .inl (.inl hx0)⟩, z Q k⟩
  | exc C fs S' => exact fun Q k => ⟨.inl ⟨rfl, _, .inl (.inl hx0)⟩, z Q k⟩
end
/-! ### what is new and hot becomes cold -/
mutual
/-- hot i by g i -/
def sbD (g : Nat → Option D) : D → Option D
  | .hot i => g i
  | .lst l => (sbL g l).map .lst
  | .tup l => (sbL g l).map .tup
  | .dic l => (sbK g l).map .dic
  | .dit l => (sbT g l).map .dit
  | .obj C l => (sbF g l).map (.obj C)
  | .exn a dd l => (sbF g l).map (.exn a dd)
  | .non => some .non
  | .bl b => some (.bl b)
  | .int i => some (.int i)
  | .str s => some (.str s)
  | .cls C => some (.cls C)
  | .ty n => some (.ty n)
  | .scr l => some (.scr l)
def sbL (g : Nat → Option D) : List D → Option (List D)
  | [] => some []
  | d :: ds => (sbD g d).bind fun e => (sbL g ds).map (e :: ·)
def sbK (g : Nat → Option D) : List (Key × D) → Option (List (Key × D))
  | [] => some []
  | (k, d) :: ds => (sbD g d).bind fun e => (sbK g ds).map ((k, e) :: ·)
def sbT (g : Nat → Option D) : List (List Key × D) → Option (List (List Key × D))
  | [] => some []
  | (k, d) :: ds => (sbD g d).bind fun e => (sbT g ds).map ((k, e) :: ·)
def sbF (g : Nat → Option D) : List (Str × D) → Option (List (Str × D))
  | [] => some []
  | (k, d) :: ds => (sbD g d).bind fun e => (sbF g ds).map ((k, e) :: ·)
end
section
variable {η η' : List Addr} {H H' : Hp} {g : Nat → Option D}
mutual
theorem sb_rp (le : Le H H') (hg : ∀ i d v, g i = some d → Rp η H (.hot i) v → Rp η' H' d v) : ∀ (d : D) {d' : D} {v : V}, sbD g d = some d' → Rp η H d v → Rp η' H' d' v
  | .hot i, d', v, h, r => hg i d' v h r
  | .lst l, d', v, h, ⟨a, xs, e, q, r⟩ => by
    obtain ⟨l', h', rfl⟩ := Option.map_eq_some_iff.mp h
    exact ⟨a, xs, e, le.at (fun z => z) (fun _ _ => nofun) q, sb_rpL le hg l h' r⟩
  | .tup l, d', v, h, ⟨a, xs, e, q, r⟩ => by
    obtain ⟨l', h', rfl⟩ := Option.map_eq_some_iff.mp h
    exact ⟨a, xs, e, le.at (fun z => z) (fun _ _ => nofun) q, sb_rpL le hg l h' r⟩
  | .dic l, d', v, h, ⟨a, xs, e, q, r⟩ => by
    obtain ⟨l', h', rfl⟩ := Option.map_eq_some_iff.mp h
    exact ⟨a, xs, e, le.rd trivial q, sb_rpK le hg l h' r⟩
  | .dit l, d', v, h, ⟨a, xs, e, q, r⟩ => by
    obtain ⟨l', h', rfl⟩ := Option.map_eq_some_iff.mp h
    exact ⟨a, xs, e, le.rd trivial q, sb_rpT le hg l h' r⟩
  | .obj C l, d', v, h, ⟨a, dx, xs, e, q, r⟩ => by
    obtain ⟨l', h', rfl⟩ := Option.map_eq_some_iff.mp h
    exact ⟨a, dx, xs, e, le.at (fun z => z) (fun _ _ => nofun) q, sb_rpF le hg l h' r⟩
  | .exn a dd l, d', v, h, ⟨xs, e, q, r⟩ => by
    obtain ⟨l', h', rfl⟩ := Option.map_eq_some_iff.mp h
    exact ⟨xs, e, le.at (fun z => z) (fun _ _ => nofun) q, sb_rpF le hg l h' r⟩
  | .non, d', v, h, r => by cases h; exact r
  | .bl _, d', v, h, r => by cases h; exact r
  | .int _, d', v, h, r => by cases h; exact r
  | .str _, d', v, h, r => by cases h; exact r
  | .cls _, d', v, h, r => by cases h; exact r
  | .ty _, d', v, h, r => by cases h; exact r
  | .scr l, d', v, h, r => by cases h; exact Rp.le (η := η) (η' := η) le (.refl η) (.scr l) r
theorem sb_rpL (le : Le H H') (hg : ∀ i d v, g i = some d → Rp η H (.hot i) v → Rp η' H' d v) : ∀ (ds : List D) {ds' : List D} {xs : List V}, sbL g ds = some ds' → RpL η H ds xs → RpL η' H' ds' xs
  | [], ds', xs, h, r => by cases h; exact r
  | d :: ds, ds', xs, h, ⟨v, vs, e, r, t⟩ => by
    obtain ⟨d1, h1, h⟩ := Option.bind_eq_some_iff.mp h
    obtain ⟨ds1, h2, rfl⟩ := Option.map_eq_some_iff.mp h
    exact ⟨v, vs, e, sb_rp le hg d h1 r, sb_rpL le hg ds h2 t⟩
theorem sb_rpK (le : Le H H') (hg : ∀ i d v, g i = some d → Rp η H (.hot i) v → Rp η' H' d v) : ∀ (ds : List (Key × D)) {ds' : List (Key × D)} {xs : List (Key × V)}, sbK g ds = some ds' → RpK η H ds xs → RpK η' H' ds' xs
  | [], ds', xs, h, r => by cases h; exact r
  | (k, d) :: ds, ds', xs, h, ⟨v, vs, e, r, t⟩ => by
    obtain ⟨d1, h1, h⟩ := Option.bind_eq_some_iff.mp h
    obtain ⟨ds1, h2, rfl⟩ := Option.map_eq_some_iff.mp h
    exact ⟨v, vs, e, sb_rp le hg d h1 r, sb_rpK le hg ds h2 t⟩
theorem sb_rpT (le : Le H H') (hg : ∀ i d v, g i = some d → Rp η H (.hot i) v → Rp η' H' d v) : ∀ (ds : List (List Key × D)) {ds' : List (List Key × D)} {xs : List (List Key × V)}, sbT g ds = some ds' → RpT η H ds xs → RpT η' H' ds' xs
  | [], ds', xs, h, r => by cases h; exact r
  | (k, d) :: ds, ds', xs, h, ⟨v, vs, e, r, t⟩ => by
    obtain ⟨d1, h1, h⟩ := Option.bind_eq_some_iff.mp h
    obtain ⟨ds1, h2, rfl⟩ := Option.map_eq_some_iff.mp h
    exact ⟨v, vs, e, sb_rp le hg d h1 r, sb_rpT le hg ds h2 t⟩
theorem sb_rpF (le : Le H H') (hg : ∀ i d v, g i = some d → Rp η H (.hot i) v → Rp η' H' d v) : ∀ (ds : List (Str × D)) {ds' : List (Str × D)} {xs : List (Str × V)}, sbF g ds = some ds' → RpF η H ds xs → RpF η' H' ds' xs
  | [], ds', xs, h, r => by cases h; exact r
  | (k, d) :: ds, ds', xs, h, ⟨v, vs, e, r, t⟩ => by
    obtain ⟨d1, h1, h⟩ := Option.bind_eq_some_iff.mp h
    obtain ⟨ds1, h2, rfl⟩ := Option.map_eq_some_iff.mp h
    exact ⟨v, vs, e, sb_rp le hg d h1 r, sb_rpF le hg ds h2 t⟩
end
end
/-- the hot object i, cold; those below n stay -/
def frzI (S : Sto) (n : Nat) : Nat → Nat → Option D
  | 0, _ => none
  | f + 1, i => if i < n then some (.hot i) else match S[i]? with
    | some (.lst l) => (sbL (frzI S n f) l).map .lst
    | some (.dic l) => (sbK (frzI S n f) l).map .dic
    | some (.dit l) => (sbT (frzI S n f) l).map .dit
    | some (.obj C l) => (sbF (frzI S n f) l).map (.obj C)
    | _ => none
def sbO (g : Nat → Option D) : HotO → Option HotO
  | .lst l => (sbL g l).map .lst
  | .dic l => (sbK g l).map .dic
  | .dit l => (sbT g l).map .dit
  | .obj C l => (sbF g l).map (.obj C)
  | .dead => some .dead
def sbS (g : Nat → Option D) : List HotO → Option (List HotO)
  | [] => some []
  | o :: r => (sbO g o).bind fun o' => (sbS g r).map (o' :: ·)
theorem sbS_get {g : Nat → Option D} : ∀ {S S' : List HotO} {i : Nat} {o : HotO}, sbS g S = some S' → S'[i]? = some o → ∃ u, S[i]? = some u ∧ sbO g u = some o
  | [], S', i, o, h, e => by cases h; simp at e
  | u :: r, S', i, o, h, e => by
    obtain ⟨u', h1, h⟩ := Option.bind_eq_some_iff.mp h
    obtain ⟨r', h2, rfl⟩ := Option.map_eq_some_iff.mp h
    cases i with
    | zero => simp at e; subst e; exact ⟨u, rfl, h1⟩
    | succ i => simpa using sbS_get h2 (by simpa using e)
theorem sbS_len {g : Nat → Option D} : ∀ {S S' : List HotO}, sbS g S = some S' → S'.length = S.length
  | [], S', h => by cases h; rfl
  | u :: r, S', h => by
    obtain ⟨u', h1, h⟩ := Option.bind_eq_some_iff.mp h
    obtain ⟨r', h2, rfl⟩ := Option.map_eq_some_iff.mp h
    simp [sbS_len h2]
/-- all hot objects from n on become cold -/
def stl (n : Nat) : Res D → Res D
  | .ok d S => match sbD (frzI S n (S.length + 1)) d, sbS (frzI S n (S.length + 1)) (S.take n) with
    | some d', some S' => .ok d' S'
    | _, _ => .bad
  | .exc C fs S => match sbF (frzI S n (S.length + 1)) fs, sbS (frzI S n (S.length + 1)) (S.take n) with
    | some fs', some S' => .exc C fs' S'
    | _, _ => .bad
  | .bad => .bad
theorem frz_rp {η B η' B' : List Addr} {S' : Sto} {H H' : Hp} (lv : ∀ b ∈ B, H b ≠ none) (n : Nx η B η' B' S' H H') {m : Nat} (hm : η.length = m) : ∀ (f i : Nat) (d : D) (v : V), frzI S' m f i = some d → Rp η' (cold B' H') (.hot i) v → Rp η (cold B H') d v
  | 0, _, _, _, h, _ => by cases h
  | f + 1, i, d, v, h, r => by
    have le : Le (cold B' H') (cold B H') := .of (cold_sub n.sb)
    have ih := frz_rp lv n hm f
    unfold frzI at h
    split at h
    · rename_i hi
      cases h
      obtain ⟨a, e, q⟩ := r
      obtain ⟨b, hb⟩ : ∃ b, η[i]? = some b := ⟨_, List.getElem?_eq_getElem (by omega)⟩
      have := n.up i b hb
      rw [q] at this
      cases this
      exact ⟨a, e, hb⟩
    · rename_i hi
      have out : ∀ a, η'[i]? = some a → a ∉ B := fun a ha hB => by
        rcases n.nw a (List.mem_of_getElem? ha) with z | z
        · obtain ⟨j, hj⟩ := List.getElem?_of_mem z
          have hj2 := n.up j a hj
          have : j = i := (List.getElem?_inj (List.getElem?_eq_some_iff.mp hj2).1 n.wd.nd).mp (by rw [hj2, ha])
          have := (List.getElem?_eq_some_iff.mp hj).1
          omega
        · exact lv a hB z
      split at h
      · rename_i l hl
        obtain ⟨l', h1, rfl⟩ := Option.map_eq_some_iff.mp h
        obtain ⟨a, e, ha, xs, q, t⟩ := n.wd.hotAt r hl
        exact ⟨a, xs, e, cold_in q (out a ha), sb_rpL le ih l h1 t⟩
      · rename_i l hl
        obtain ⟨l', h1, rfl⟩ := Option.map_eq_some_iff.mp h
        obtain ⟨a, e, ha, xs, q, t⟩ := n.wd.hotAt r hl
        exact ⟨a, xs, e, .inl (cold_in q (out a ha)), sb_rpK le ih l h1 t⟩
      · rename_i l hl
        obtain ⟨l', h1, rfl⟩ := Option.map_eq_some_iff.mp h
        obtain ⟨a, e, ha, xs, q, t⟩ := n.wd.hotAt r hl
        exact ⟨a, xs, e, .inl (cold_in q (out a ha)), sb_rpT le ih l h1 t⟩
      · rename_i C l hl
        obtain ⟨l', h1, rfl⟩ := Option.map_eq_some_iff.mp h
        obtain ⟨a, e, ha, dx, xs, q, t⟩ := n.wd.hotAt r hl
        exact ⟨a, dx, xs, e, cold_in q (out a ha), sb_rpF le ih l h1 t⟩
      · cases h
theorem stl_nx {η B η' B' : List Addr} {S S' S'' : Sto} {H H' : Hp} (w : Wd η B S H) (n : Nx η B η' B' S' H H') (h : sbS (frzI S' S.length (S'.length + 1)) (S'.take S.length) = some S'') : Nx η B η B S'' H H' := by
  have fz := frz_rp w.live n w.len (S'.length + 1)
  have le : Le (cold B' H') (cold B H') := .of (cold_sub n.sb)
  have hl' : S.length ≤ S'.length := by
    rw [← w.len, ← n.wd.len]
    refine Nat.le_of_not_lt fun hlt => ?_
    have hb : η[η'.length]? = some (η[η'.length]'hlt) := List.getElem?_eq_getElem hlt
    have := (List.getElem?_eq_some_iff.mp (n.up _ _ hb)).1
    omega
  refine ⟨⟨w.sub, fun b hb => n.wd.live b (n.sb b hb), w.nd, ?_, fun i a o hi ho => ?_⟩, .refl η, w.sub, fun _ h => .inl h, fun _ h => .inl h, fun _ h => h, n.kp⟩
  · rw [sbS_len h, List.length_take, w.len]
    omega
  · obtain ⟨u, hu, hs⟩ := sbS_get h ho
    have hu' : S'[i]? = some u := by
      rw [List.getElem?_take] at hu
      split at hu
      · exact hu
      · cases hu
    have hr := n.wd.hot i a u (n.up i a hi) hu'
    cases u with
    | lst l => obtain ⟨l', h1, rfl⟩ := Option.map_eq_some_iff.mp hs; obtain ⟨xs, q, t⟩ := hr; exact ⟨xs, q, sb_rpL le fz l h1 t⟩
    | dic l => obtain ⟨l', h1, rfl⟩ := Option.map_eq_some_iff.mp hs; obtain ⟨xs, q, t⟩ := hr; exact ⟨xs, q, sb_rpK le fz l h1 t⟩
    | dit l => obtain ⟨l', h1, rfl⟩ := Option.map_eq_some_iff.mp hs; obtain ⟨xs, q, t⟩ := hr; exact ⟨xs, q, sb_rpT le fz l h1 t⟩
    | obj C l => obtain ⟨l', h1, rfl⟩ := Option.map_eq_some_iff.mp hs; obtain ⟨dx, xs, q, t⟩ := hr; exact ⟨dx, xs, q, sb_rpF le fz l h1 t⟩
    | dead => cases hs; trivial
theorem ev_stl {η B : List Addr} {E : XK} {T : VK → Prop} {S : Sto} {H : Hp} {r : Res D} (w : Wd η B S H) (h : EvD η B E T H r) : EvD η B E T H (stl S.length r) := by
  cases r with
  | bad => trivial
  | ok d S' =>
    dsimp only [stl]
    split
    · rename_i d' S'' h1 h2
      exact fun Q k => h Q fun v η' B' H' n r => k v η B H' (stl_nx w n h2) (sb_rp (.of (cold_sub n.sb)) (frz_rp w.live n w.len _) d h1 r)
    · trivial
  | exc C fs S' =>
    dsimp only [stl]
    split
    · rename_i d' S'' h1 h2
      exact fun Q k => h Q fun dd ws η' B' H' n e1 e2 r => k dd ws η B H' (stl_nx w n h2) e1 (cold_sub n.sb _ _ e2) (sb_rpF (.of (cold_sub n.sb)) (frz_rp w.live n w.len _) fs h1 r)
    · trivial
@[simp] def stlF (F : Env → Sto → Res D) : Env → Sto → Res D := fun ρ S => stl S.length (F ρ S)
theorem de_stl {X : Cx} {E : EK} {e : Expr} {t : TE} {F : Env → Sto → Res D} (h : DE X E e t F) : DE X E e t (stlF F) := ⟨h.1, fun η B S σ ρ H w s => ev_stl w (h.2 η B S σ ρ H w s)⟩
@[simp] def stlM (m : List D → Sto → Res D) : List D → Sto → Res D := fun ds S => stl S.length (m ds S)
theorem post_stl {η B : List Addr} {S : Sto} {H : Hp} {Q : VK} {E : XK} {r : Res D} (w : Wd η B S H) (h : PostR η B H Q E (stl S.length r)) : PostR η B H Q E r := by
  cases r with
  | bad => exact h
  | ok d S' =>
    dsimp only [stl] at h
    split at h
    · rename_i d' S'' h1 h2
      exact fun v η' B' H' n r => h v η B H' (stl_nx w n h2) (sb_rp (.of (cold_sub n.sb)) (frz_rp w.live n w.len _) d h1 r)
    · exact h.elim
  | exc C fs S' =>
    dsimp only [stl] at h
    split at h
    · rename_i d' S'' h1 h2
      exact fun dd ws η' B' H' n e1 e2 r => h dd ws η B H' (stl_nx w n h2) e1 (cold_sub n.sb _ _ e2) (sb_rpF (.of (cold_sub n.sb)) (frz_rp w.live n w.len _) fs h1 r)
    · exact h.elim
theorem spF_stl {n : Nat} {m : List D → Sto → Res D} {vs : List V} {H : Hp} {Q : VK} {E : XK} (h : spF n (stlM m) vs H Q E) : spF n m vs H Q E := by
  obtain ⟨η, B, S, ds, hl, w, r, q⟩ := h
  exact ⟨η, B, S, ds, hl, w, r, post_stl w q⟩
theorem spS_stl {m : List D → Sto → Res D} {vs : List V} {H : Hp} {Q : VK} {E : XK} (h : spS (stlM m) vs H Q E) : spS m vs H Q E := by
  obtain ⟨η, B, S, ds, hl, w, r, q⟩ := h
  exact ⟨η, B, S, ds, hl, w, r, post_stl w q⟩
section
variable {P : Program} {w : World} {K : PySem.W.Frag} {mg : Str → Option Value} {base : Heap} {CX : CXT} {k n : Nat} {f : Addr} {m : List D → Sto → Res D}
theorem FnOk.stl {fd : FuncData} {ps : List Str} (F : FnOk P w K mg base CX k f fd ps (spF n m)) : FnOk P w K mg base CX k f fd ps (spF n (stlM m)) := F.imp fun _ _ _ _ h => spF_stl h
theorem FnG.stl (F : FnG P w K mg base CX k f (spF n m)) : FnG P w K mg base CX k f (spF n (stlM m)) := fun A outer s H us vs Q E h1 h2 h3 h4 h5 => F A outer s H us vs Q E h1 h2 h3 h4 (spF_stl h5)
end
end DL
set_option Elab.async false
set_option linter.all false
set_option maxRecDepth 100000
set_option maxHeartbeats 4000000
set_option autoImplicit false
namespace DL
open PySem PySem.Spec PyProof.Rows L2
theorem _root_.L2.Room.units5 {k : Nat} {A : Around} (r : Room k A) : A.units + 65 < cLine := by have := r.un; omega
/-! ### f(k = v, ..): all parameters by their names, in their order -/
def DK (X : Cx) (E : EK) (kws : List Keyword) (t : TA) (F : Env → Sto → Res (List D)) : Prop := PK X kws t ∧ SoA E t F
def KwB (K : PySem.W.Frag) (fd : FuncData) (ps : List Str) : Prop := ∀ (s : Shared) (ws : List Value), K.In s.heap → ws.length = ps.length → BindsTo s fd ⟨[], ps.zip ws⟩ (ps.zip ws)
section
variable {X : Cx} {E : EK} {e : Expr} {kws : List Keyword} {te : TE} {tas : TA} {F : Env → Sto → Res D} {Fs : Env → Sto → Res (List D)} {pos p kp : Pos} {nm : Str}
theorem dk_nil : DK X E [] tNil fNilA := ⟨pk_nil, (da_nil (X := X)).2⟩
theorem so_consA {te : TE} {tas : TA} (ha : SoE E te F) (hb : SoA E tas Fs) : SoA E (tCons te tas) (consA F Fs) := fun η B S σ ρ H w s => by
  refine Ev.bind (T := te σ H) (T' := fun v H1 Q => tas σ H1 fun vs H2 => Q (v :: vs) H2) (ha η B S σ ρ H w s) fun d S1 v η1 B1 H1 n1 r1 => ?_
  refine Ev.bind (T := tas σ H1) (T' := fun vs H2 Q => Q (v :: vs) H2) (hb η1 B1 S1 σ ρ H1 n1.wd (n1.sl s)) fun ds S2 vs η2 B2 H2 n2 r2 => ?_
  exact Ev.now n2.wd ⟨v, vs, rfl, n2.rp r1, r2⟩
theorem dk_cons (ha : DE X E e te F) (hr : DK X E kws tas Fs) : DK X E (⟨some nm, e, kp⟩ :: kws) (tCons te tas) (consA F Fs) := ⟨pk_cons ha.1 hr.1, so_consA ha.2 hr.2⟩
theorem de_callKw {CX : CXT} {n k : Nat} {m : List D → Sto → Res D} {f : Addr} {fd : FuncData} {ps : List Str} {x : Str} (G : FnOk X.prog X.w X.K X.mg X.base CX k f fd ps (spF n m)) (hr : Room k X.A) (hm : X.mg x = some (.ref f)) (hk : PySem.W.keepIn X.K (.ref f) = true) (hb : KwB X.K fd ps)
    (hx : PassS CX X E) (ha : DK X E kws tas Fs) (hg : Gl X x := by rfl) (hdb : (x == ("__debug__" : Str)) = false := by decide) (hall : (backToKw pos (keywordEach kws X.env)).all (·.1.isSome) = true := by rfl) (hks : (backToKw pos (keywordEach kws X.env)).filterMap (·.1) = ps := by rfl)
    (hpl : ((backTo pos (starEach [] X.env)).any (·.1) || (backToKw pos (keywordEach kws X.env)).any (·.1.isNone)) = false := by rfl) :
    DE X E (.Call (.Name x p) [] kws pos) (tCallS' (spF n m) E tas) (callF n m Fs) := by
  refine ⟨⟨fun pins s σ H Q I h => ?_⟩, so_call ha.2⟩
  refine wpAny_Call_Name_kw (ld_glob I hg hm ?_ hdb)
  refine PySem.W.callWith_KW0 (h₀ := X.base) I.ok.mod.kin hk hall (thn (ha.1.run pos pins s σ H _ I h) fun ws s2 ⟨zs, H2, I2, rz, q2⟩ => ⟨I2.kIn, ?_⟩) hpl
  rw [hks]
  have hl := G.len _ _ _ _ q2
  refine wpAny_call (codeAny_mono (G.run X.A X.stack s2 H2 ⟨[] ++ [], ps.zip ws⟩ ws zs Q (E σ) hr I2.env0 (hb s2 ws I2.kIn (rz.length.symm.trans hl)) rz q2) fun r s' hq => ?_)
  cases r with
  | error e => exact hx pins σ H2 s2 e s' I2 hq
  | ok fl =>
    cases fl with
    | ret u => exact I2.after hq
    | next => exact False.elim hq
    | brk => exact False.elim hq
    | cont => exact False.elim hq
end
/-- a loop by its invariant, never left -/
theorem forF_inv {gF : D → Env → Option Env} {Φ : Env → Sto → Flow} (I : Env → Sto → Prop) : ∀ (items : List D) (ρ : Env) (S : Sto), I ρ S → (∀ d ∈ items, ∀ ρ S, I ρ S → ∃ ρ1 ρ2 S2, gF d ρ = some ρ1 ∧ Φ ρ1 S = .nx ρ2 S2 ∧ I ρ2 S2) →
    ∃ ρ' S', forF gF Φ items ρ S = .nx ρ' S' ∧ I ρ' S'
  | [], ρ, S, h, _ => ⟨ρ, S, rfl, h⟩
  | d :: ds, ρ, S, h, step => by
    obtain ⟨ρ1, ρ2, S2, e1, e2, h2⟩ := step d List.mem_cons_self ρ S h
    obtain ⟨ρ', S', e, h'⟩ := forF_inv I ds ρ2 S2 h2 fun d' hd => step d' (List.mem_cons_of_mem _ hd)
    refine ⟨ρ', S', ?_, h'⟩
    unfold forF
    rw [e1]
    dsimp only
    rw [e2]
    exact e
/-! ### the __init__ of an error: its two rows -/
def clsBody : Stmt → List Stmt
  | .ClassDef _ _ _ b _ _ _ _ _ _ _ => b
  | _ => []
section
variable {P : Program} {w : World} {K : PySem.W.Frag} {mg : Str → Option Value} {base : Heap}
theorem init_x {C fI : Addr} {fd : FuncData} {qual f : Str} {st : Stmt} {ms : Str} (F : Fun K "__init__" qual st fI fd) (Sc : FnScope [Str.ofString "self", f] [Str.ofString "self", f] (defScope st)) (oex : OexC K C) (hno : PySem.W.findIn K (.ref C) f = some none)
    (hbody : ∀ cdv A outer s H E, PSs ((cxOf CX0 P w K mg base [Str.ofString "self", f] qual (defScope st) fI cdv A outer s H E).nox) (defBody st) (tSeq (tDrop (tVeI K (tCons (tVar 0) (tCons (tC (.str ms)) tNil)))) (tOst K f (tVar 0) (tVar 1)))) : FnOk P w K mg base CX0 1 fI fd [Str.ofString "self", f] (spInit C [f]) := by
  refine F.ok Sc (fun vs H Q E h => ?_) (fun cdv A outer s H vs Q E hr h => ?_)
  · obtain ⟨a, ys, rfl, hl, _⟩ := h
    rw [List.length_cons, hl]
    rfl
  · obtain ⟨a, ys, rfl, hl, ha, q⟩ := h
    match ys, hl with
    | [y], _ =>
      refine ⟨_, hbody cdv A outer s H E, ?_⟩
      refine ⟨_, rfl, a, C, [.str ms], rfl, by show 1 ≤ 1000; decide, oex, ha, ?_⟩
      exact ⟨y, rfl, _, rfl, a, C, rfl, oex, hno, .inl ⟨ha, fun dx hd hn => q dx hd hn⟩⟩
end
end DL
set_option Elab.async false
set_option linter.all false
set_option maxRecDepth 100000
set_option maxHeartbeats 4000000
set_option autoImplicit false
namespace K2
open PySem PySem.Spec PyProof.Rows L2 DL
abbrev alpha : Str := "abcdefghijklmnopqrstuvwxyz"
def topS (i : Nat) : Stmt := PySem.Challenge.pw_linkfarms_k02_paths_made_and_ordered.main.body.getD i (.Pass ⟨0, 0, 0, 0⟩)
abbrev s_is_name : Stmt := topS 8
theorem sc_is_name : FnScope ["thing", "sign"] ["thing"] (defScope s_is_name) := ⟨rfl, rfl, rfl, by decide +kernel, rfl, by decide +kernel, by decide +kernel⟩
abbrev s_is_path : Stmt := topS 9
theorem sc_is_path : FnScope ["thing", "name"] ["thing"] (defScope s_is_path) := ⟨rfl, rfl, rfl, by decide +kernel, rfl, by decide +kernel, by decide +kernel⟩
abbrev s_look_path : Stmt := topS 10
theorem sc_look_path : FnScope ["path"] ["path"] (defScope s_look_path) := ⟨rfl, rfl, rfl, by decide +kernel, rfl, by decide +kernel, by decide +kernel⟩
abbrev s_names_in : Stmt := topS 11
theorem sc_names_in : FnScope ["path"] ["path"] (defScope s_names_in) := ⟨rfl, rfl, rfl, by decide +kernel, rfl, by decide +kernel, by decide +kernel⟩
abbrev s_names_of : Stmt := topS 12
theorem sc_names_of : FnScope ["path"] ["path"] (defScope s_names_of) := ⟨rfl, rfl, rfl, by decide +kernel, rfl, by decide +kernel, by decide +kernel⟩
abbrev s_path_of : Stmt := topS 13
theorem sc_path_of : FnScope ["names", "name"] ["names"] (defScope s_path_of) := ⟨rfl, rfl, rfl, by decide +kernel, rfl, by decide +kernel, by decide +kernel⟩
abbrev s_parent_in : Stmt := topS 14
theorem sc_parent_in : FnScope ["path"] ["path"] (defScope s_parent_in) := ⟨rfl, rfl, rfl, by decide +kernel, rfl, by decide +kernel, by decide +kernel⟩
abbrev s_parent : Stmt := topS 15
theorem sc_parent : FnScope ["path"] ["path"] (defScope s_parent) := ⟨rfl, rfl, rfl, by decide +kernel, rfl, by decide +kernel, by decide +kernel⟩
abbrev s_path_key : Stmt := topS 16
theorem sc_path_key : FnScope ["path", "names"] ["path"] (defScope s_path_key) := ⟨rfl, rfl, rfl, by decide +kernel, rfl, by decide +kernel, by decide +kernel⟩
abbrev s_in_order : Stmt := topS 17
theorem sc_in_order : FnScope ["paths"] ["paths"] (defScope s_in_order) := ⟨rfl, rfl, rfl, by decide +kernel, rfl, by decide +kernel, by decide +kernel⟩
abbrev s__law_bag : Stmt := topS 19
theorem sc__law_bag : FnScope ["_law_script", "_law_at", "_law_cell", "_law_digits"] ["_law_script", "_law_at"] (defScope s__law_bag) := ⟨rfl, rfl, rfl, by decide +kernel, rfl, by decide +kernel, by decide +kernel⟩
abbrev s__law_take : Stmt := topS 20
theorem sc__law_take : FnScope ["_law_bag_here", "_law_many", "_law_digit"] ["_law_bag_here", "_law_many"] (defScope s__law_take) := ⟨rfl, rfl, rfl, by decide +kernel, rfl, by decide +kernel, by decide +kernel⟩
abbrev s__law_pick : Stmt := topS 21
theorem sc__law_pick : FnScope ["_law_bag_here", "_law_some"] ["_law_bag_here", "_law_some"] (defScope s__law_pick) := ⟨rfl, rfl, rfl, by decide +kernel, rfl, by decide +kernel, by decide +kernel⟩
abbrev s__law_words : Stmt := topS 22
theorem sc__law_words : FnScope ["_law_bag_here", "_law_many", "_law_letters", "_law_stem", "_law_spot", "_law_first", "_law_pace", "_law_k"] ["_law_bag_here", "_law_many"] (defScope s__law_words) := ⟨rfl, rfl, rfl, by decide +kernel, rfl, by decide +kernel, by decide +kernel⟩
abbrev s__law_path : Stmt := topS 23
theorem sc__law_path : FnScope ["_law_bag_here", "_law_letters", "_law_most", "_law_k"] ["_law_bag_here", "_law_letters", "_law_most"] (defScope s__law_path) := ⟨rfl, rfl, rfl, by decide +kernel, rfl, by decide +kernel, by decide +kernel⟩
abbrev s__law_made : Stmt := topS 24
theorem sc__law_made : FnScope ["_law_values", "e", "_law_own"] ["_law_values"] (defScope s__law_made) := ⟨rfl, rfl, rfl, by decide +kernel, rfl, by decide +kernel, by decide +kernel⟩
abbrev s__law_made_right : Stmt := topS 25
theorem sc__law_made_right : FnScope ["_law_bag_here", "_law_letters", "_law_odd", "_law_values", "_law_wrong", "_law_due", "_law_k", "_law_value"] ["_law_bag_here", "_law_letters"] (defScope s__law_made_right) := ⟨rfl, rfl, rfl, by decide +kernel, rfl, by decide +kernel, by decide +kernel⟩
abbrev s__law_path_right : Stmt := topS 26
theorem sc__law_path_right : FnScope ["_law_path_here", "_law_bits", "_law_due", "_law_part"] ["_law_path_here"] (defScope s__law_path_right) := ⟨rfl, rfl, rfl, by decide +kernel, rfl, by decide +kernel, by decide +kernel⟩
abbrev s__law_before : Stmt := topS 27
theorem sc__law_before : FnScope ["_law_one", "_law_other", "_law_mine", "_law_yours", "_law_part"] ["_law_one", "_law_other"] (defScope s__law_before) := ⟨rfl, rfl, rfl, by decide +kernel, rfl, by decide +kernel, by decide +kernel⟩
abbrev s__law_order_right : Stmt := topS 28
theorem sc__law_order_right : FnScope ["_law_bag_here", "_law_letters", "_law_some", "_law_kept", "_law_told", "_law_k"] ["_law_bag_here", "_law_letters"] (defScope s__law_order_right) := ⟨rfl, rfl, rfl, by decide +kernel, rfl, by decide +kernel, by decide +kernel⟩
abbrev s_law : Stmt := topS 29
theorem sc_law : FnScope ["_law_script", "_law_at", "_law_bag_here", "_law_letters", "_law_turn"] ["_law_script"] (defScope s_law) := ⟨rfl, rfl, rfl, by decide +kernel, rfl, by decide +kernel, by decide +kernel⟩
structure Ad where
  is_name : Addr
  fd_is_name : FuncData
  is_path : Addr
  fd_is_path : FuncData
  look_path : Addr
  fd_look_path : FuncData
  names_in : Addr
  fd_names_in : FuncData
  names_of : Addr
  fd_names_of : FuncData
  path_of : Addr
  fd_path_of : FuncData
  parent_in : Addr
  fd_parent_in : FuncData
  parent : Addr
  fd_parent : FuncData
  path_key : Addr
  fd_path_key : FuncData
  in_order : Addr
  fd_in_order : FuncData
  _law_bag : Addr
  fd__law_bag : FuncData
  _law_take : Addr
  fd__law_take : FuncData
  _law_pick : Addr
  fd__law_pick : FuncData
  _law_words : Addr
  fd__law_words : FuncData
  _law_path : Addr
  fd__law_path : FuncData
  _law_made : Addr
  fd__law_made : FuncData
  _law_made_right : Addr
  fd__law_made_right : FuncData
  _law_path_right : Addr
  fd__law_path_right : FuncData
  _law_before : Addr
  fd__law_before : FuncData
  _law_order_right : Addr
  fd__law_order_right : FuncData
  law : Addr
  fd_law : FuncData
  t_LETTERS : Tok
  t_MOST_LETTERS : Tok
  t_ROOT : Tok
  C_BadPath : Addr
  C_BadName : Addr
  C_BadEntry : Addr
structure Txt (P : Program) (w : World) (K : PySem.W.Frag) (mg : Str → Option Value) (base : Heap) (A : Ad) : Prop where
  F_is_name : Fun K "is_name" "is_name" s_is_name A.is_name A.fd_is_name
  g_is_name : mg "is_name" = some (.ref A.is_name)
  k_is_name : PySem.W.keepIn K (.ref A.is_name) = true
  b_is_name : Binds K A.fd_is_name ["thing"] []
  F_is_path : Fun K "is_path" "is_path" s_is_path A.is_path A.fd_is_path
  g_is_path : mg "is_path" = some (.ref A.is_path)
  k_is_path : PySem.W.keepIn K (.ref A.is_path) = true
  b_is_path : Binds K A.fd_is_path ["thing"] []
  F_look_path : Fun K "look_path" "look_path" s_look_path A.look_path A.fd_look_path
  g_look_path : mg "look_path" = some (.ref A.look_path)
  k_look_path : PySem.W.keepIn K (.ref A.look_path) = true
  b_look_path : Binds K A.fd_look_path ["path"] []
  F_names_in : Fun K "names_in" "names_in" s_names_in A.names_in A.fd_names_in
  g_names_in : mg "names_in" = some (.ref A.names_in)
  k_names_in : PySem.W.keepIn K (.ref A.names_in) = true
  b_names_in : Binds K A.fd_names_in ["path"] []
  F_names_of : Fun K "names_of" "names_of" s_names_of A.names_of A.fd_names_of
  g_names_of : mg "names_of" = some (.ref A.names_of)
  k_names_of : PySem.W.keepIn K (.ref A.names_of) = true
  b_names_of : Binds K A.fd_names_of ["path"] []
  F_path_of : Fun K "path_of" "path_of" s_path_of A.path_of A.fd_path_of
  g_path_of : mg "path_of" = some (.ref A.path_of)
  k_path_of : PySem.W.keepIn K (.ref A.path_of) = true
  F_parent_in : Fun K "parent_in" "parent_in" s_parent_in A.parent_in A.fd_parent_in
  g_parent_in : mg "parent_in" = some (.ref A.parent_in)
  k_parent_in : PySem.W.keepIn K (.ref A.parent_in) = true
  b_parent_in : Binds K A.fd_parent_in ["path"] []
  F_parent : Fun K "parent" "parent" s_parent A.parent A.fd_parent
  g_parent : mg "parent" = some (.ref A.parent)
  k_parent : PySem.W.keepIn K (.ref A.parent) = true
  b_parent : Binds K A.fd_parent ["path"] []
  F_path_key : Fun K "path_key" "path_key" s_path_key A.path_key A.fd_path_key
  g_path_key : mg "path_key" = some (.ref A.path_key)
  k_path_key : PySem.W.keepIn K (.ref A.path_key) = true
  b_path_key : Binds K A.fd_path_key ["path"] []
  F_in_order : Fun K "in_order" "in_order" s_in_order A.in_order A.fd_in_order
  g_in_order : mg "in_order" = some (.ref A.in_order)
  k_in_order : PySem.W.keepIn K (.ref A.in_order) = true
  b_in_order : Binds K A.fd_in_order ["paths"] []
  kb_in_order : KwB K A.fd_in_order ["paths"]
  F__law_bag : Fun K "_law_bag" "_law_bag" s__law_bag A._law_bag A.fd__law_bag
  g__law_bag : mg "_law_bag" = some (.ref A._law_bag)
  k__law_bag : PySem.W.keepIn K (.ref A._law_bag) = true
  b__law_bag : Binds K A.fd__law_bag ["_law_script", "_law_at"] []
  F__law_take : Fun K "_law_take" "_law_take" s__law_take A._law_take A.fd__law_take
  g__law_take : mg "_law_take" = some (.ref A._law_take)
  k__law_take : PySem.W.keepIn K (.ref A._law_take) = true
  b__law_take : Binds K A.fd__law_take ["_law_bag_here", "_law_many"] []
  F__law_pick : Fun K "_law_pick" "_law_pick" s__law_pick A._law_pick A.fd__law_pick
  g__law_pick : mg "_law_pick" = some (.ref A._law_pick)
  k__law_pick : PySem.W.keepIn K (.ref A._law_pick) = true
  b__law_pick : Binds K A.fd__law_pick ["_law_bag_here", "_law_some"] []
  F__law_words : Fun K "_law_words" "_law_words" s__law_words A._law_words A.fd__law_words
  g__law_words : mg "_law_words" = some (.ref A._law_words)
  k__law_words : PySem.W.keepIn K (.ref A._law_words) = true
  b__law_words : Binds K A.fd__law_words ["_law_bag_here", "_law_many"] []
  F__law_path : Fun K "_law_path" "_law_path" s__law_path A._law_path A.fd__law_path
  g__law_path : mg "_law_path" = some (.ref A._law_path)
  k__law_path : PySem.W.keepIn K (.ref A._law_path) = true
  b__law_path : Binds K A.fd__law_path ["_law_bag_here", "_law_letters", "_law_most"] []
  F__law_made : Fun K "_law_made" "_law_made" s__law_made A._law_made A.fd__law_made
  g__law_made : mg "_law_made" = some (.ref A._law_made)
  k__law_made : PySem.W.keepIn K (.ref A._law_made) = true
  b__law_made : Binds K A.fd__law_made ["_law_values"] []
  F__law_made_right : Fun K "_law_made_right" "_law_made_right" s__law_made_right A._law_made_right A.fd__law_made_right
  g__law_made_right : mg "_law_made_right" = some (.ref A._law_made_right)
  k__law_made_right : PySem.W.keepIn K (.ref A._law_made_right) = true
  b__law_made_right : Binds K A.fd__law_made_right ["_law_bag_here", "_law_letters"] []
  F__law_path_right : Fun K "_law_path_right" "_law_path_right" s__law_path_right A._law_path_right A.fd__law_path_right
  g__law_path_right : mg "_law_path_right" = some (.ref A._law_path_right)
  k__law_path_right : PySem.W.keepIn K (.ref A._law_path_right) = true
  b__law_path_right : Binds K A.fd__law_path_right ["_law_path_here"] []
  F__law_before : Fun K "_law_before" "_law_before" s__law_before A._law_before A.fd__law_before
  g__law_before : mg "_law_before" = some (.ref A._law_before)
  k__law_before : PySem.W.keepIn K (.ref A._law_before) = true
  b__law_before : Binds K A.fd__law_before ["_law_one", "_law_other"] []
  F__law_order_right : Fun K "_law_order_right" "_law_order_right" s__law_order_right A._law_order_right A.fd__law_order_right
  g__law_order_right : mg "_law_order_right" = some (.ref A._law_order_right)
  k__law_order_right : PySem.W.keepIn K (.ref A._law_order_right) = true
  b__law_order_right : Binds K A.fd__law_order_right ["_law_bag_here", "_law_letters"] []
  F_law : Fun K "law" "law" s_law A.law A.fd_law
  g_law : mg "law" = some (.ref A.law)
  k_law : PySem.W.keepIn K (.ref A.law) = true
  b_law : Binds K A.fd_law ["_law_script"] []
  g_LETTERS : mg "LETTERS" = some (.str "abcdefghijklmnopqrstuvwxyz" A.t_LETTERS)
  g_MOST_LETTERS : mg "MOST_LETTERS" = some (.int 8 A.t_MOST_LETTERS)
  g_ROOT : mg "ROOT" = some (.str "" A.t_ROOT)
  xf_BadPath : XfC K A.C_BadPath
  xe_BadPath : ExcC K A.C_BadPath
  xm_BadPath : PySem.W.exmOne K (.ref A.C_BadPath) (.ref A.C_BadPath) = some true
  xn_BadPath_path : PySem.W.findIn K (.ref A.C_BadPath) "path" = some none
  x_BadPath : XCls P w K mg base "BadPath" A.C_BadPath ["path"]
  xf_BadName : XfC K A.C_BadName
  xe_BadName : ExcC K A.C_BadName
  xm_BadName : PySem.W.exmOne K (.ref A.C_BadName) (.ref A.C_BadName) = some true
  xn_BadName_name : PySem.W.findIn K (.ref A.C_BadName) "name" = some none
  x_BadName : XCls P w K mg base "BadName" A.C_BadName ["name"]
  xf_BadEntry : XfC K A.C_BadEntry
  xe_BadEntry : ExcC K A.C_BadEntry
  xm_BadEntry : PySem.W.exmOne K (.ref A.C_BadEntry) (.ref A.C_BadEntry) = some true
  xn_BadEntry_path : PySem.W.findIn K (.ref A.C_BadEntry) "path" = some none
  x_BadEntry : XCls P w K mg base "BadEntry" A.C_BadEntry ["path"]
  xi_BadName_ValueError : OkX K A.C_BadName (.ty "ValueError") true
  xi_BadName_BadPath_BadEntry : OkX K A.C_BadName (.tup [.cls A.C_BadPath, .cls A.C_BadEntry]) false
  m_ValueError : mg "ValueError" = none
  m_abs : mg "abs" = none
  m_all : mg "all" = none
  m_int : mg "int" = none
  m_isinstance : mg "isinstance" = none
  m_len : mg "len" = none
  m_list : mg "list" = none
  m_max : mg "max" = none
  m_min : mg "min" = none
  m_range : mg "range" = none
  m_repr : mg "repr" = none
  m_sorted : mg "sorted" = none
  m_str : mg "str" = none
  m_tuple : mg "tuple" = none
end K2
set_option Elab.async false
set_option linter.all false
set_option maxRecDepth 100000
set_option maxHeartbeats 4000000
set_option autoImplicit false
namespace K2
open PySem PySem.Spec PyProof.Rows L2 DL

abbrev slash : Str := "/"
def isNm (s : Str) : Bool := decide (1 ≤ s.length ∧ s.length ≤ 8) && s.cps.toList.all fun c => decide (c ∈ alpha.cps.toList)
def parts (s : Str) : List Str := Txt.split s slash
def namesL (s : Str) : List Str := if s = "" then [] else parts s
def isPt (s : Str) : Bool := decide (s = "") || (parts s).all isNm
def isNmD : D → Option Bool
  | .str s => if s.length ≤ 100000 then some (isNm s) else none
  | d => (tyN d).map fun _ => false
def isPtD : D → Option Bool
  | .str s => if s.length ≤ 50000 then some (isPt s) else none
  | d => (tyN d).map fun _ => false
def m_is_name (A : Ad) : List D → Sto → Res D
  | [d], S => (lift (isNmD d) S).bind fun b S => .ok (.bl b) S
  | _, _ => .bad
def m_is_path (A : Ad) : List D → Sto → Res D
  | [d], S => (lift (isPtD d) S).bind fun b S => .ok (.bl b) S
  | _, _ => .bad
def m_look_path (A : Ad) : List D → Sto → Res D
  | [d], S => (lift (isPtD d) S).bind fun b S => if b = true then .ok .non S else .exc A.C_BadPath [("path", d)] S
  | _, _ => .bad
def m_names_in (A : Ad) : List D → Sto → Res D
  | [.str s], S => if s.length ≤ 50000 then .ok (.tup ((namesL s).map .str)) S else .bad
  | _, _ => .bad
def m_names_of (A : Ad) : List D → Sto → Res D
  | [d], S => (lift (isPtD d) S).bind fun b S => if b = true then m_names_in A [d] S else .exc A.C_BadPath [("path", d)] S
  | _, _ => .bad
theorem isPtD_true {d : D} (h : isPtD d = some true) : ∃ z, d = .str z ∧ z.length ≤ 50000 ∧ isPt z = true := by
  cases d with
  | str z =>
    by_cases hz : z.length ≤ 50000
    · exact ⟨z, rfl, hz, by simpa [isPtD, hz] using h⟩
    · simp [isPtD, hz] at h
  | _ => simp [isPtD] at h
def m_parent_in (A : Ad) : List D → Sto → Res D
  | [.str s], S => if s.length ≤ 50000 then .ok (.str (Txt.join slash (cutL (namesL s) none (some (-1))))) S else .bad
  | _, _ => .bad
def m_parent (A : Ad) : List D → Sto → Res D
  | [d], S => (lift (isPtD d) S).bind fun b S => if b = true then (match d with
    | .str s => if s = "" then .ok .non S else m_parent_in A [d] S
    | _ => .bad) else .exc A.C_BadPath [("path", d)] S
  | _, _ => .bad
def m_path_key (A : Ad) : List D → Sto → Res D
  | [.str s], S => if s.length ≤ 50000 then .ok (.tup [.int (namesL s).length, .tup ((namesL s).map .str)]) S else .bad
  | _, _ => .bad
theorem cutL_map {α β : Type} (f : α → β) (l : List α) (lo hi : Option Int) : cutL (l.map f) lo hi = (cutL l lo hi).map f := by
  unfold cutL
  rw [List.length_map, ← List.map_drop, ← List.map_take]
theorem cutL_sub {α : Type} {l : List α} {lo hi : Option Int} {x : α} (h : x ∈ cutL l lo hi) : x ∈ l := List.mem_of_mem_drop (List.mem_of_mem_take h)
section
variable {P : Program} {w : World} {K : PySem.W.Frag} {mg : Str → Option Value} {base : Heap}
@[simp] theorem slash_len : (Str.ofString "/").length = 1 := by decide +kernel
theorem parts_count (s : Str) : (parts s).length ≤ s.length + 1 := by
  have := split_weight s slash (by decide +kernel)
  unfold parts
  omega
theorem small_parts {s p : Str} (h : p ∈ parts s) : p.length ≤ s.length := part_short h
theorem ok_is_name {A : Ad} (T : Txt P w K mg base A) : FnOk P w K mg base (L2.CX P w) 1 A.is_name A.fd_is_name ["thing"] (spF 1 (m_is_name A)) := by
  refine fnd (k := 0) (m_is_name A) T.F_is_name sc_is_name fun cdv A' outer s H E hr => ?_
  have hu := hr.units
  refine ⟨_, _, (dss_cons (ds_if (dw_pt (dw_or (dt_not (dt_val (de_callB (v_isi K) cr_isiK T.m_isinstance boot_isinstance (da_cons (de_var 0) (da_cons (de_ty "str" T.m_str (by decide +kernel)) da_nil))))) (dw_or1 (dt_not (dt_chain (op_le) (op_le) (v_le) (v_le) de_int (de_callB (v_len K) cr_lenA T.m_len boot_len (da_cons (de_var 0) da_nil)) (de_gInt T.g_MOST_LETTERS)))))) (dss_one (ds_ret de_bl)) dss_nil)
  (dss_one (ds_ret (de_callB (v_all K) cr_allK T.m_all (by decide +kernel) (da_cons (de_lc (own := [("sign", 1)]) (g := gName 1) ⟨blkOk_by (own := [("sign", 1)]) (N := ["thing", "sign"]) (sc := defScope s_is_name) (by decide +kernel), fun _ _ _ _ _ => pg_name (i := 1) sc_is_name.nd rfl (by first | exact Or.inl rfl | exact Or.inr rfl), fun _ _ _ _ _ => (by exact dts_nil), fun _ _ _ _ _ => (by exact (de_cmp op_in_sign v_inC (de_var 1) (de_gStr T.g_LETTERS) rfl)), ⟨[1], sog_name 1, by decide⟩⟩ (di_str (de_var 0)) rfl sc_is_name.nd) da_nil))))), fun ds S hl => ?_⟩
  match ds, hl with
  | [d], _ =>
    cases d with
    | str z =>
      by_cases hz : z.length ≤ 100000
      · right
        have e2 : z.cps.size ≤ 100000 := hz
        by_cases h1 : (1 : Int) ≤ z.length
        · by_cases h8 : (z.length : Int) ≤ 8
          · have h1' : 1 ≤ z.length := by omega
            have h8' : z.length ≤ 8 := by omega
            simp [m_is_name, isNmD, hz, h1, h8, isNm, h1', h8']
            rw [lcomp_map (S' := S) (z.cps.toList.map fun c => .str ⟨#[c]⟩) (fun d => match d with | .str x => .bl (decide ((x.cps.toList.headD 0) ∈ alpha.cps.toList)) | _ => .non)]
            · simp [Function.comp_def, bools_map]; rfl
            · simp
            · simp; exact e2
            · intro d hd
              obtain ⟨c, _, rfl⟩ := List.mem_map.mp hd
              exact ⟨_, rfl, rfl, by simp [opInC]⟩
          · have h8' : ¬ z.length ≤ 8 := by omega
            simp [m_is_name, isNmD, hz, h1, h8, isNm, h8']
        · have h1' : ¬ 1 ≤ z.length := by omega
          simp [m_is_name, isNmD, hz, h1, isNm, h1']
      · left
        simp [m_is_name, isNmD, hz]
    | hot i => left; rfl
    | cls i => left; rfl
    | ty i => left; rfl
    | exn i j k => left; rfl
    | obj i j => left; rfl
    | dit i => left; rfl
    | scr i => left; rfl
    | _ => right; simp [m_is_name, isNmD]
theorem ok_is_path {A : Ad} (T : Txt P w K mg base A) : FnOk P w K mg base (L2.CX P w) 2 A.is_path A.fd_is_path ["thing"] (spF 1 (m_is_path A)) := by
  refine fnd (k := 1) (m_is_path A) T.F_is_path sc_is_path fun cdv A' outer s H E hr => ?_
  have hu := hr.units
  refine ⟨_, _, (dss_cons (ds_if (dt_not (dt_val (de_callB (v_isi K) cr_isiK T.m_isinstance boot_isinstance (da_cons (de_var 0) (da_cons (de_ty "str" T.m_str (by decide +kernel)) da_nil))))) (dss_one (ds_ret de_bl)) dss_nil)
  (dss_one (ds_ret (de_or (de_cmp (or_eq (K := K) hu) (v_eq K) (de_var 0) (de_gStr T.g_ROOT) rfl) (de_one (de_callB (v_all K) cr_allK T.m_all (by decide +kernel) (da_cons (de_lc (own := [("name", 1)]) (g := gName 1) ⟨blkOk_by (own := [("name", 1)]) (N := ["thing", "name"]) (sc := defScope s_is_path) (by decide +kernel), fun _ _ _ _ _ => pg_name (i := 1) sc_is_path.nd rfl (by first | exact Or.inl rfl | exact Or.inr rfl), fun _ _ _ _ _ => (by exact dts_nil), fun _ _ _ _ _ => (by exact (de_call (ok_is_name T) (hr.mono (by decide)) T.g_is_name T.k_is_name T.b_is_name passN (da_cons (de_var 1) da_nil))), ⟨[1], sog_name 1, by decide⟩⟩ (di_list (K := K) (de_split (de_var 0) de_str)) rfl sc_is_path.nd) da_nil))))))), fun ds S hl => ?_⟩
  match ds, hl with
  | [d], _ =>
    cases d with
    | str z =>
      by_cases hz : z.length ≤ 50000
      · right
        by_cases h0 : z = ""
        · subst h0
          simp [m_is_path, isPtD, opEq, isPt, hz]
        · have h0' : ¬ z = Str.ofString "" := h0
          simp [m_is_path, isPtD, hz, opEq, h0', isPt]
          rw [lcomp_map (S' := S) ((parts z).map .str) (fun d => match d with | .str x => .bl (isNm x) | _ => .non)]
          · simp [Function.comp_def, bools_map]
          · have : z.length ≤ 100000 := by omega
            simp [opSplit, this, parts]
          · have := parts_count z
            simp
            omega
          · intro d hd
            obtain ⟨p, hp, rfl⟩ := List.mem_map.mp hd
            refine ⟨_, rfl, rfl, ?_⟩
            have := small_parts hp
            have : p.length ≤ 100000 := by omega
            simp [m_is_name, isNmD, this]
      · left
        simp [m_is_path, isPtD, hz]
    | hot i => left; rfl
    | cls i => left; rfl
    | ty i => left; rfl
    | exn i j k => left; rfl
    | obj i j => left; rfl
    | dit i => left; rfl
    | scr i => left; rfl
    | _ => right; simp [m_is_path, isPtD]
theorem ok_look_path {A : Ad} (T : Txt P w K mg base A) : FnOk P w K mg base (L2.CX P w) 3 A.look_path A.fd_look_path ["path"] (spF 1 (m_look_path A)) := by
  refine fnd (k := 2) (m_look_path A) T.F_look_path sc_look_path fun cdv A' outer s H E hr => ?_
  have hu := hr.units
  refine ⟨_, _, (dss_one (ds_if (dt_not (dt_val (de_call (ok_is_path T) (hr.mono (by decide)) T.g_is_path T.k_is_path T.b_is_path pass_fn (da_cons (de_var 0) da_nil)))) (dss_one (ds_raise T.x_BadPath (hr.mono (by decide)) takes_fn rfl (da_cons (de_var 0) da_nil))) dss_nil)), fun ds S hl => ?_⟩
  match ds, hl with
  | [d], _ =>
    cases h : isPtD d with
    | none => left; simp [m_look_path, h]
    | some b =>
      right
      cases b <;> simp [m_look_path, m_is_path, h, fldD]
theorem ok_names_in {A : Ad} (T : Txt P w K mg base A) : FnOk P w K mg base (L2.CX P w) 1 A.names_in A.fd_names_in ["path"] (spF 1 (m_names_in A)) := by
  refine fnd (k := 0) (m_names_in A) T.F_names_in sc_names_in fun cdv A' outer s H E hr => ?_
  have hu := hr.units
  refine ⟨_, _, (dss_one (ds_ret (de_if (dt_cmp (or_ne (K := K) hu) (v_ne K) (de_var 0) (de_gStr T.g_ROOT) rfl) (de_callTy (v_tuple K) cr_tupleK T.m_tuple (by decide +kernel) (da_cons (de_split (de_var 0) de_str) da_nil)) (de_tup da_nil)))), fun ds S hl => ?_⟩
  match ds, hl with
  | [d], _ =>
    cases d with
    | str z =>
      by_cases hz : z.length ≤ 50000
      · right
        have h5 : z.length ≤ 100000 := by omega
        by_cases h0 : z = ""
        · subst h0
          simp [m_names_in, opNe, namesL, hz]
        · have h0' : ¬ z = Str.ofString "" := h0
          simp [m_names_in, hz, h5, opNe, h0', namesL, opSplit, fTuple, parts]
      · left
        simp [m_names_in, hz]
    | _ => left; rfl
theorem ok_names_of {A : Ad} (T : Txt P w K mg base A) : FnOk P w K mg base (L2.CX P w) 4 A.names_of A.fd_names_of ["path"] (spF 1 (m_names_of A)) := by
  refine fnd (k := 3) (m_names_of A) T.F_names_of sc_names_of fun cdv A' outer s H E hr => ?_
  have hu := hr.units
  refine ⟨_, _, (dss_cons (ds_expr (de_call (ok_look_path T) (hr.mono (by decide)) T.g_look_path T.k_look_path T.b_look_path pass_fn (da_cons (de_var 0) da_nil)))
  (dss_one (ds_ret (de_call (ok_names_in T) (hr.mono (by decide)) T.g_names_in T.k_names_in T.b_names_in pass_fn (da_cons (de_var 0) da_nil))))), fun ds S hl => ?_⟩
  match ds, hl with
  | [d], _ =>
    cases h : isPtD d with
    | none => left; simp [m_names_of, h]
    | some b =>
      right
      cases b with
      | false => simp [m_names_of, m_look_path, h]
      | true =>
        obtain ⟨z, rfl, hz, _⟩ := isPtD_true h
        simp [m_names_of, m_look_path, h, m_names_in, hz]
theorem namesL_weight (s : Str) : ((namesL s).map (·.length)).sum + (namesL s).length ≤ s.length + 1 := by
  unfold namesL
  split
  · simp
  · exact split_weight s slash (by decide +kernel)
theorem sum_cut (l : List Nat) (lo hi : Option Int) : (cutL l lo hi).sum ≤ l.sum := by
  unfold cutL
  generalize HT.sIx l.length 0 lo = a
  generalize HT.sIx l.length l.length hi - a = b
  have h1 : ∀ (m : List Nat) (n : Nat), (m.take n).sum ≤ m.sum := by
    intro m
    induction m with
    | nil => intro n; simp
    | cons x m ih =>
      intro n
      cases n with
      | zero => simp
      | succ n => have := ih n; simp; omega
  have h2 : ∀ (m : List Nat) (n : Nat), (m.drop n).sum ≤ m.sum := by
    intro m
    induction m with
    | nil => intro n; simp
    | cons x m ih =>
      intro n
      cases n with
      | zero => simp
      | succ n => have := ih n; simp; omega
  exact Nat.le_trans (h1 _ _) (h2 _ _)
theorem cutL_len {α : Type} (l : List α) (lo hi : Option Int) : (cutL l lo hi).length ≤ l.length := by
  unfold cutL
  simp
  omega
theorem join_cut_ok (s : Str) (hz : s.length ≤ 50000) (lo hi : Option Int) : joinOk slash (cutL (namesL s) lo hi) = true := by
  unfold joinOk
  have h1 := namesL_weight s
  have h2 := cutL_len (namesL s) lo hi
  have h3 := sum_cut ((namesL s).map (·.length)) lo hi
  rw [cutL_map] at h3
  rw [show slash.length = 1 from slash_len]
  exact decide_eq_true (by omega)
theorem ok_parent_in {A : Ad} (T : Txt P w K mg base A) : FnOk P w K mg base (L2.CX P w) 2 A.parent_in A.fd_parent_in ["path"] (spF 1 (m_parent_in A)) := by
  refine fnd (k := 1) (m_parent_in A) T.F_parent_in sc_parent_in fun cdv A' outer s H E hr => ?_
  have hu := hr.units
  refine ⟨_, _, (dss_one (ds_ret (de_join (K := K) de_str (de_slice (K := K) (de_call (ok_names_in T) (hr.mono (by decide)) T.g_names_in T.k_names_in T.b_names_in pass_fn (da_cons (de_var 0) da_nil)) do_none (do_some (de_neg de_int)))))), fun ds S hl => ?_⟩
  match ds, hl with
  | [d], _ =>
    cases d with
    | str z =>
      by_cases hz : z.length ≤ 50000
      · right
        have h := join_cut_ok z hz none (some (-1))
        simp [m_parent_in, m_names_in, hz, opCut, cutL_map, opJoin, h]
      · left
        simp [m_parent_in, hz]
    | _ => left; rfl
theorem ok_parent {A : Ad} (T : Txt P w K mg base A) : FnOk P w K mg base (L2.CX P w) 4 A.parent A.fd_parent ["path"] (spF 1 (m_parent A)) := by
  refine fnd (k := 3) (m_parent A) T.F_parent sc_parent fun cdv A' outer s H E hr => ?_
  have hu := hr.units
  refine ⟨_, _, (dss_cons (ds_expr (de_call (ok_look_path T) (hr.mono (by decide)) T.g_look_path T.k_look_path T.b_look_path pass_fn (da_cons (de_var 0) da_nil)))
  (dss_one (ds_ret (de_if (dt_cmp (or_ne (K := K) hu) (v_ne K) (de_var 0) (de_gStr T.g_ROOT) rfl) (de_call (ok_parent_in T) (hr.mono (by decide)) T.g_parent_in T.k_parent_in T.b_parent_in pass_fn (da_cons (de_var 0) da_nil)) de_non)))), fun ds S hl => ?_⟩
  match ds, hl with
  | [d], _ =>
    cases h : isPtD d with
    | none => left; simp [m_parent, h]
    | some b =>
      right
      cases b with
      | false => simp [m_parent, m_look_path, h]
      | true =>
        obtain ⟨z, rfl, hz, _⟩ := isPtD_true h
        by_cases h0 : z = ""
        · subst h0
          simp [m_parent, m_look_path, h, opNe]
        · have h0' : ¬ z = Str.ofString "" := h0
          simp [m_parent, m_look_path, h, opNe, h0', m_parent_in, hz]
theorem ok_path_key {A : Ad} (T : Txt P w K mg base A) : FnOk P w K mg base (L2.CX P w) 2 A.path_key A.fd_path_key ["path"] (spF 1 (m_path_key A)) := by
  refine fnd (k := 1) (m_path_key A) T.F_path_key sc_path_key fun cdv A' outer s H E hr => ?_
  have hu := hr.units
  refine ⟨_, _, (dss_cons (ds_set 1 sc_path_key.nd (de_call (ok_names_in T) (hr.mono (by decide)) T.g_names_in T.k_names_in T.b_names_in pass_fn (da_cons (de_var 0) da_nil)))
  (dss_one (ds_ret (de_tup (da_cons (de_callB (v_len K) cr_lenA T.m_len boot_len (da_cons (de_var 1) da_nil)) (da_cons (de_var 1) da_nil)))))), fun ds S hl => ?_⟩
  match ds, hl with
  | [d], _ =>
    cases d with
    | str z =>
      by_cases hz : z.length ≤ 50000
      · right
        simp [m_path_key, m_names_in, hz]
      · left
        simp [m_path_key, hz]
    | _ => left; rfl
end
end K2
set_option Elab.async false
set_option linter.all false
set_option maxRecDepth 100000
set_option maxHeartbeats 4000000
set_option autoImplicit false
namespace K2
open PySem PySem.Spec PyProof.Rows L2 DL
/-! ### the bag -/
structure Bag where
  x : Int
  y : Int
  z : Int
def bagO (b : Bag) : HotO := .lst [.int b.x, .int b.y, .int b.z]
/-- where the bag lies -/
structure Pl where
  S : Sto
  i : Nat
  h : i < S.length
def bg (L : Pl) (b : Bag) : Sto := L.S.set L.i (bagO b)
@[simp] theorem bg_len (L : Pl) (b : Bag) : (bg L b).length = L.S.length := by simp [bg]
@[simp] theorem bg_at (L : Pl) (b : Bag) : (bg L b)[L.i]? = some (bagO b) := by simp [bg, L.h]
@[simp] theorem bg_set (L : Pl) (b c : Bag) : (bg L b).set L.i (bagO c) = bg L c := by simp [bg]
def takeB (b : Bag) (n : Int) : Int × Bag :=
  if 0 < b.x then (b.x % n, ⟨b.x / n, b.y, b.z⟩)
  else let z := b.z + 1
    let y := (b.y * 48271 + 3571 * z + 7) % 2147483647
    ((y / 8) ^ 3 % 2147483579 / 4 % n, ⟨b.x, y, z⟩)
theorem takeB_range (b : Bag) {n : Int} (h : 0 < n) : 0 ≤ (takeB b n).1 ∧ (takeB b n).1 < n := by
  unfold takeB
  split
  · exact ⟨Int.emod_nonneg _ (by omega), Int.emod_lt_of_pos _ h⟩
  · exact ⟨Int.emod_nonneg _ (by omega), Int.emod_lt_of_pos _ h⟩
def onBag {α : Type} (a : D) (S : Sto) (k : Nat → Bag → Res α) : Res α := match a with
  | .hot i => (match S[i]? with
    | some (.lst [.int x, .int y, .int z]) => k i ⟨x, y, z⟩
    | _ => .bad)
  | _ => .bad
@[simp] theorem onBag_bg {α : Type} (L : Pl) (b : Bag) (k : Nat → Bag → Res α) : onBag (.hot L.i) (bg L b) k = k L.i b := by
  unfold onBag
  dsimp only
  rw [bg_at]
  rfl
theorem onBag_two (a : D) (S : Sto) : (∃ (L : Pl) (b : Bag), a = .hot L.i ∧ S = bg L b) ∨ ∀ {α : Type} (k : Nat → Bag → Res α), onBag a S k = .bad := by
  by_cases h : ∃ i x y z, a = .hot i ∧ S[i]? = some (.lst [.int x, .int y, .int z])
  · obtain ⟨i, x, y, z, e1, e2⟩ := h
    have hi := (List.getElem?_eq_some_iff.mp e2).1
    refine .inl ⟨⟨S, i, hi⟩, ⟨x, y, z⟩, e1, ?_⟩
    unfold bg
    apply List.ext_getElem?
    intro j
    by_cases e : i = j
    · subst e
      rw [List.getElem?_set_self hi]
      exact e2
    · rw [List.getElem?_set_ne e]
  · refine .inr fun k => ?_
    unfold onBag
    split
    · rename_i i
      split
      · rename_i x y z q
        exact absurd ⟨i, x, y, z, rfl, q⟩ h
      · rfl
    · rfl
@[simp] theorem hotL_bg (L : Pl) (b : Bag) : hotL (bg L b) L.i = some [.int b.x, .int b.y, .int b.z] := by
  unfold hotL
  rw [bg_at]
  rfl
@[simp] theorem vL_bg (L : Pl) (b : Bag) : vL (bg L b) (.hot L.i) = some [.int b.x, .int b.y, .int b.z] := by
  unfold vL
  dsimp only
  rw [bg_at]
  rfl
theorem set_bag (L : Pl) (b : Bag) (x y z : Int) : (bg L b).set L.i (.lst [.int x, .int y, .int z]) = bg L ⟨x, y, z⟩ := by simp [bg, bagO]
def m__law_take (A : Ad) : List D → Sto → Res D
  | [a, .int n], S => onBag a S fun i b => if 0 < n ∧ n < 1000000 then .ok (.int (takeB b n).1) (S.set i (bagO (takeB b n).2)) else .bad
  | _, _ => .bad
theorem take_ok (A : Ad) (L : Pl) (b : Bag) {n : Int} (h : 0 < n) (h2 : n < 1000000) : m__law_take A [.hot L.i, .int n] (bg L b) = .ok (.int (takeB b n).1) (bg L (takeB b n).2) := by
  simp [m__law_take, h, h2]
def lenD : D → Option Nat
  | .lst l => some l.length
  | .str z => some z.length
  | _ => none
def m__law_pick (A : Ad) : List D → Sto → Res D
  | [a, d], S => onBag a S fun i b => match lenD d with
    | some n => if 0 < n ∧ n < 100000 then lift (opIx (S.set i (bagO (takeB b n).2)) d (.int (takeB b n).1)) (S.set i (bagO (takeB b n).2)) else .bad
    | none => .bad
  | _, _ => .bad
theorem len_of {S : Sto} {d : D} {n : Nat} (h : lenD d = some n) (h2 : n < 100000) : fLen S [d] = some (.int n) := by
  cases d with
  | lst l => cases h; rfl
  | str z =>
    cases h
    simp
    omega
  | _ => cases h
section
variable {P : Program} {w : World} {K : PySem.W.Frag} {mg : Str → Option Value} {base : Heap}
theorem ok__law_take {A : Ad} (T : Txt P w K mg base A) : FnOk P w K mg base (L2.CX P w) 1 A._law_take A.fd__law_take ["_law_bag_here", "_law_many"] (spF 2 (m__law_take A)) := by
  refine fnd (k := 0) (m__law_take A) T.F__law_take sc__law_take fun cdv A' outer s H E hr => ?_
  have hu := hr.units
  refine ⟨_, _, (dss_cons (ds_if (dt_cmp (op_gt) (v_gt) (de_ix (K := K) (de_var 0) de_int) de_int rfl) (dss_cons (ds_set 2 sc__law_take.nd (de_op op_mod v_mod (de_callTy v_int call_int1 T.m_int (by decide +kernel) (da_cons (de_ix (K := K) (de_var 0) de_int) da_nil)) (de_var 1)))
  (dss_cons (ds_setIx (de_op op_fdiv v_fdiv (de_ix (K := K) (de_var 0) de_int) (de_var 1)) (de_var 0) de_int)
  (dss_one (ds_ret (de_var 2))))) dss_nil)
  (dss_cons (ds_setIx (de_op or_add v_add (de_ix (K := K) (de_var 0) de_int) de_int) (de_var 0) de_int)
  (dss_cons (ds_setIx (de_op op_mod v_mod (de_op or_add v_add (de_op or_add v_add (de_op op_mul v_mul (de_callTy v_int call_int1 T.m_int (by decide +kernel) (da_cons (de_ix (K := K) (de_var 0) de_int) da_nil)) de_int) (de_op op_mul v_mul de_int (de_ix (K := K) (de_var 0) de_int))) de_int) de_int) (de_var 0) de_int)
  (dss_one (ds_ret (de_op op_mod v_mod (de_op op_fdiv v_fdiv (de_op op_mod v_mod (de_callTy v_int call_int1 T.m_int (by decide +kernel) (da_cons (de_op op_pow v_pow (de_op op_fdiv v_fdiv (de_ix (K := K) (de_var 0) de_int) de_int) de_int) da_nil)) de_int) de_int) (de_var 1))))))), fun ds S hl => ?_⟩
  match ds, hl with
  | [a, b], _ =>
    cases b with
    | int n =>
      rcases onBag_two a S with ⟨L, ⟨x, y, z⟩, rfl, rfl⟩ | h
      · by_cases hn : 0 < n ∧ n < 1000000
        · obtain ⟨h1, h2⟩ := hn
          right
          have h3 : n < 1073741824 := by omega
          by_cases hx : 0 < x
          · simp [m__law_take, opIx, atI, ixN, hx, takeB, fInt1, opMod, opFdiv, h1, h2, h3, set_bag]
          · have hb : ((y * 48271 + 3571 * (z + 1) + 7) % 2147483647 / 8).natAbs < 18446744073709551616 := by
              have q1 := Int.emod_nonneg (y * 48271 + 3571 * (z + 1) + 7) (show (2147483647 : Int) ≠ 0 by decide)
              have q2 := Int.emod_lt_of_pos (y * 48271 + 3571 * (z + 1) + 7) (show (0 : Int) < 2147483647 by decide)
              omega
            simp [m__law_take, opIx, atI, ixN, hx, takeB, fInt1, opMod, opFdiv, opMul, opPow, h1, h2, h3, hb, set_bag]
        · left
          simp only [m__law_take, onBag_bg]
          rw [if_neg hn]
      · left
        simp [m__law_take, h]
    | _ => left; rfl
theorem ok__law_pick {A : Ad} (T : Txt P w K mg base A) : FnOk P w K mg base (L2.CX P w) 2 A._law_pick A.fd__law_pick ["_law_bag_here", "_law_some"] (spF 2 (m__law_pick A)) := by
  refine fnd (k := 1) (m__law_pick A) T.F__law_pick sc__law_pick fun cdv A' outer s H E hr => ?_
  have hu := hr.units
  refine ⟨_, _, (dss_one (ds_ret (de_ix (K := K) (de_var 1) (de_call (ok__law_take T) (hr.mono (by decide)) T.g__law_take T.k__law_take T.b__law_take pass_fn (da_cons (de_var 0) (da_cons (de_callB (v_len K) cr_lenA T.m_len boot_len (da_cons (de_var 1) da_nil)) da_nil)))))), fun ds S hl => ?_⟩
  match ds, hl with
  | [a, d], _ =>
    rcases onBag_two a S with ⟨L, b, rfl, rfl⟩ | h
    · cases hd : lenD d with
      | none => left; simp [m__law_pick, hd]
      | some n =>
        by_cases hn : 0 < n ∧ n < 100000
        · obtain ⟨h1, h2⟩ := hn
          right
          have e := take_ok A L b (n := (n : Int)) (by omega) (by omega)
          have hl2 := fun S => len_of (S := S) hd h2
          simp [-fLen, m__law_pick, hd, h1, h2, hl2, e]
          cases opIx (bg L (takeB b n).2) d (.int (takeB b n).1) <;> rfl
        · left
          simp only [m__law_pick, onBag_bg, hd]
          rw [if_neg hn]
    · left
      simp [m__law_pick, h]
end
theorem atI_mem {α : Type} {l : List α} {r : Int} (h0 : 0 ≤ r) (h1 : r < l.length) : ∃ x, atI l r = some x ∧ x ∈ l := by
  have hr : r.toNat < l.length := by omega
  refine ⟨l[r.toNat], ?_, List.getElem_mem hr⟩
  unfold atI ixN
  rw [if_pos h0, if_pos h1]
  show l[r.toNat]? = _
  exact List.getElem?_eq_getElem hr
theorem pick_lst (A : Ad) (L : Pl) (b : Bag) {l : List D} (h : l ≠ []) (h2 : l.length < 100000) : ∃ x b', m__law_pick A [.hot L.i, .lst l] (bg L b) = .ok x (bg L b') ∧ x ∈ l := by
  have hp : 0 < l.length := List.length_pos_iff.mpr h
  obtain ⟨r1, r2⟩ := takeB_range b (n := (l.length : Int)) (by omega)
  obtain ⟨x, e, hx⟩ := atI_mem r1 r2
  exact ⟨x, (takeB b l.length).2, by simp [m__law_pick, lenD, hp, h2, opIx, e], hx⟩
theorem pick_str (A : Ad) (L : Pl) (b : Bag) {z : Str} (h : 0 < z.length) (h2 : z.length < 100000) : ∃ c b', m__law_pick A [.hot L.i, .str z] (bg L b) = .ok (.str ⟨#[c]⟩) (bg L b') ∧ c ∈ z.cps.toList := by
  obtain ⟨r1, r2⟩ := takeB_range b (n := (z.length : Int)) (by omega)
  obtain ⟨c, e, hx⟩ := atI_mem (l := z.cps.toList) r1 (by rw [Array.length_toList]; exact r2)
  have h3 : z.length ≤ 100000 := by omega
  exact ⟨c, (takeB b z.length).2, by simp [m__law_pick, lenD, h, h2, h3, opIx, e], hx⟩
/-- a comprehension that draws -/
theorem lcF_bag {L : Pl} {gF : D → DL.Env → Option DL.Env} {T : DL.Env → Sto → Res Bool} {F : DL.Env → Sto → Res D} {ρ : DL.Env} {Pr : D → Prop} : ∀ {items : List D}, (∀ d ∈ items, ∀ b, ∃ ρ1 y b', gF d ρ = some ρ1 ∧ T ρ1 (bg L b) = .ok true (bg L b) ∧ F ρ1 (bg L b) = .ok y (bg L b') ∧ Pr y) →
    ∀ (b : Bag) (acc : List D), (∀ y ∈ acc, Pr y) → ∃ res b', lcF gF T F ρ items (bg L b) acc = .ok res (bg L b') ∧ (∀ y ∈ res, Pr y) ∧ res.length = acc.length + items.length
  | [], _, b, acc, ha => ⟨acc, b, rfl, ha, rfl⟩
  | d :: ds, h, b, acc, ha => by
    obtain ⟨ρ1, y, b1, h1, h2, h3, hp⟩ := h d List.mem_cons_self b
    obtain ⟨res, b', e, hr, hl⟩ := lcF_bag (items := ds) (fun d' hd => h d' (List.mem_cons_of_mem _ hd)) b1 (acc ++ [y]) (fun z hz => by
      rcases List.mem_append.mp hz with q | q
      · exact ha z q
      · rw [List.mem_singleton.mp q]; exact hp)
    refine ⟨res, b', ?_, hr, ?_⟩
    · unfold lcF
      rw [h1]
      simp only [h2, h3]
      exact e
    · rw [hl]
      simp
      omega
theorem lcomp_bag {L : Pl} {vs : List Nat} {Fi : DL.Env → Sto → Res (List D)} {gF : D → DL.Env → Option DL.Env} {T : DL.Env → Sto → Res Bool} {F : DL.Env → Sto → Res D} {ρ : DL.Env} {S : Sto} (Pr : D → Prop) (items : List D) (b : Bag) (hi : Fi ρ S = .ok items (bg L b)) (hn : items.length ≤ 100000)
    (h : ∀ d ∈ items, ∀ b, ∃ ρ1 y b', gF d (wipeE ρ vs) = some ρ1 ∧ T ρ1 (bg L b) = .ok true (bg L b) ∧ F ρ1 (bg L b) = .ok y (bg L b') ∧ Pr y) : ∃ res b', lcomp vs Fi gF T F ρ S = .ok (.lst res) (bg L b') ∧ (∀ y ∈ res, Pr y) ∧ res.length = items.length := by
  obtain ⟨res, b', e, hr, hl⟩ := lcF_bag h b [] (fun y hy => nomatch hy)
  refine ⟨res, b', ?_, hr, by simpa using hl⟩
  unfold lcomp
  rw [hi]
  show (if items.length ≤ 100000 then _ else _) = _
  rw [if_pos hn, e]
  rfl
theorem rngF_len (lo hi : Int) : (rngF lo hi).length = (hi - lo).toNat := by simp [rngF]
theorem strs_from {ls : List Str} : ∀ {res : List D}, (∀ y ∈ res, ∃ w ∈ ls, y = D.str w) → ∃ ns : List Str, res = ns.map .str ∧ ∀ w ∈ ns, w ∈ ls
  | [], _ => ⟨[], rfl, fun _ h => nomatch h⟩
  | y :: res, h => by
    obtain ⟨w, hw, rfl⟩ := h y List.mem_cons_self
    obtain ⟨ns, rfl, hn⟩ := strs_from fun z hz => h z (List.mem_cons_of_mem _ hz)
    exact ⟨w :: ns, rfl, fun u hu => by
      rcases List.mem_cons.mp hu with q | q
      · rw [q]; exact hw
      · exact hn u q⟩
theorem isNm_len {w : Str} (h : isNm w = true) : 1 ≤ w.length ∧ w.length ≤ 8 := by
  unfold isNm at h
  exact of_decide_eq_true (Bool.and_eq_true_iff.mp h).1
theorem sum_small : ∀ {ns : List Str}, (∀ w ∈ ns, isNm w = true) → (ns.map (·.length)).sum ≤ 8 * ns.length
  | [], _ => by simp
  | w :: ns, h => by
    have := isNm_len (h w List.mem_cons_self)
    have := sum_small (ns := ns) fun u hu => h u (List.mem_cons_of_mem _ hu)
    simp
    omega
theorem join_small {ns : List Str} (h : ∀ w ∈ ns, isNm w = true) (hl : ns.length ≤ 1000) : joinOk slash ns = true := by
  unfold joinOk
  have := sum_small h
  rw [show slash.length = 1 from slash_len]
  exact decide_eq_true (by omega)
theorem ex__law_path (A : Ad) : ∃ m : List D → Sto → Res D, (∀ {P : Program} {w : World} {K : PySem.W.Frag} {mg : Str → Option Value} {base : Heap}, Txt P w K mg base A → FnOk P w K mg base (L2.CX P w) 3 A._law_path A.fd__law_path ["_law_bag_here", "_law_letters", "_law_most"] (spF 3 m)) ∧
  ∀ (L : Pl) (b : Bag) (ls : List Str) (n : Int), ls ≠ [] → ls.length < 100 → 0 ≤ n → n < 100 → (∀ w ∈ ls, isNm w = true) → ∃ (ns : List Str) (b' : Bag), m [.hot L.i, .lst (ls.map .str), .int n] (bg L b) = .ok (.str (Txt.join slash ns)) (bg L b') ∧ (∀ w ∈ ns, w ∈ ls) ∧ (ns.length : Int) ≤ n := by
  refine ⟨runF ["_law_bag_here", "_law_letters", "_law_most", "_law_k"] _, fun {P w K mg base} T => fnd (k := 2) _ T.F__law_path sc__law_path fun cdv A' outer s H E hr => ⟨_, _, (dss_one (ds_ret (de_join (K := K) de_str (de_lc (own := [("_law_k", 3)]) (g := gName 3) ⟨blkOk_by (own := [("_law_k", 3)]) (N := ["_law_bag_here", "_law_letters", "_law_most", "_law_k"]) (sc := defScope s__law_path) (by decide +kernel), fun _ _ _ _ _ => pg_name (i := 3) sc__law_path.nd rfl (by first | exact Or.inl rfl | exact Or.inr rfl), fun _ _ _ _ _ => (by exact dts_nil), fun _ _ _ _ _ => (by exact (de_call (ok__law_pick T) (hr.mono (by decide)) T.g__law_pick T.k__law_pick T.b__law_pick passN (da_cons (de_var 0) (da_cons (de_var 1) da_nil)))), ⟨[3], sog_name 3, by decide⟩⟩ (di_range1 T.m_range (da_cons (de_call (ok__law_take T) (hr.mono (by decide)) T.g__law_take T.k__law_take T.b__law_take pass_fn (da_cons (de_var 0) (da_cons (de_op or_add v_add (de_var 2) de_int) da_nil))) da_nil)) rfl sc__law_path.nd)))), fun ds S hl => Or.inr rfl⟩, ?_⟩
  intro L b ls n h1 h2 h3 h4 h5
  have e := take_ok A L b (n := n + 1) (by omega) (by omega)
  obtain ⟨q1, q2⟩ := takeB_range b (n := n + 1) (by omega)
  simp
  generalize hL : lcomp _ _ _ _ _ _ _ = RR
  obtain ⟨res, b', rfl, hr, hl⟩ : ∃ res b', RR = .ok (.lst res) (bg L b') ∧ (∀ y ∈ res, ∃ w ∈ ls, y = .str w) ∧ res.length = (rngF 0 (takeB b (n + 1)).1).length := by
    subst hL
    refine lcomp_bag _ (rngF 0 (takeB b (n + 1)).1) (takeB b (n + 1)).2 ?_ ?_ ?_
    · have c : -100000 < (takeB b (n + 1)).1 ∧ (takeB b (n + 1)).1 < 100000 := by omega
      simp [e, c]
    · rw [rngF_len]; omega
    · intro d hd b
      obtain ⟨x, b', ex, hx⟩ := pick_lst A L b (l := ls.map .str) (by simpa using h1) (by simp; omega)
      obtain ⟨w, hw, rfl⟩ := List.mem_map.mp hx
      exact ⟨_, .str w, b', rfl, rfl, by simp [ex], w, hw, rfl⟩
  obtain ⟨ns, rfl, hn⟩ := strs_from hr
  rw [List.length_map, rngF_len] at hl
  have hj : joinOk slash ns = true := join_small (fun w hw => h5 w (hn w hw)) (by omega)
  refine ⟨ns, ⟨b', ?_⟩, hn, by omega⟩
  simp [opJoin, hj]
noncomputable def m__law_path (A : Ad) : List D → Sto → Res D := Classical.choose (ex__law_path A)
theorem ok__law_path {P : Program} {w : World} {K : PySem.W.Frag} {mg : Str → Option Value} {base : Heap} {A : Ad} (T : Txt P w K mg base A) : FnOk P w K mg base (L2.CX P w) 3 A._law_path A.fd__law_path ["_law_bag_here", "_law_letters", "_law_most"] (spF 3 (m__law_path A)) := (Classical.choose_spec (ex__law_path A)).1 T
theorem sp__law_path (A : Ad) : ∀ (L : Pl) (b : Bag) (ls : List Str) (n : Int), ls ≠ [] → ls.length < 100 → 0 ≤ n → n < 100 → (∀ w ∈ ls, isNm w = true) → ∃ (ns : List Str) (b' : Bag), (m__law_path A) [.hot L.i, .lst (ls.map .str), .int n] (bg L b) = .ok (.str (Txt.join slash ns)) (bg L b') ∧ (∀ w ∈ ns, w ∈ ls) ∧ (ns.length : Int) ≤ n := (Classical.choose_spec (ex__law_path A)).2
end K2
set_option Elab.async false
set_option linter.all false
set_option maxRecDepth 100000
set_option maxHeartbeats 4000000
set_option autoImplicit false
namespace K2
open PySem PySem.Spec PyProof.Rows L2 DL
theorem app_list (x y : Str) : (x ++ y).cps.toList = x.cps.toList ++ y.cps.toList := by
  show (x.cps ++ y.cps).toList = _
  simp
theorem join_signs : ∀ cs : List Nat, Txt.join "" (cs.map fun c => (⟨#[c]⟩ : Str)) = ⟨cs.toArray⟩ := by
  have h : ∀ cs : List Nat, TL.joinL [] (cs.map fun c => [c]) = cs := by
    intro cs
    induction cs with
    | nil => rfl
    | cons c cs ih =>
      cases cs with
      | nil => rfl
      | cons d cs =>
        show [c] ++ [] ++ TL.joinL [] ((d :: cs).map fun c => [c]) = _
        rw [ih]
        rfl
  intro cs
  have e : TL.tl (Txt.join "" (cs.map fun c => (⟨#[c]⟩ : Str))) = cs := by
    rw [TL.join_eq, TL.tl_join, List.map_map]
    show TL.joinL [] (cs.map fun c => [c]) = cs
    exact h cs
  have e2 : (Txt.join "" (cs.map fun c => (⟨#[c]⟩ : Str))).cps.toList = cs := e
  generalize Txt.join "" (cs.map fun c => (⟨#[c]⟩ : Str)) = z at e2
  obtain ⟨cps⟩ := z
  congr
  rw [← e2]
theorem signs_from {Pr : Nat → Prop} : ∀ {res : List D}, (∀ y ∈ res, ∃ c, Pr c ∧ y = D.str ⟨#[c]⟩) → ∃ cs : List Nat, res = cs.map (fun c => D.str ⟨#[c]⟩) ∧ ∀ c ∈ cs, Pr c
  | [], _ => ⟨[], rfl, fun _ h => nomatch h⟩
  | y :: res, h => by
    obtain ⟨w, hw, rfl⟩ := h y List.mem_cons_self
    obtain ⟨ns, rfl, hn⟩ := signs_from fun z hz => h z (List.mem_cons_of_mem _ hz)
    exact ⟨w :: ns, rfl, fun u hu => by
      rcases List.mem_cons.mp hu with q | q
      · rw [q]; exact hw
      · exact hn u q⟩
theorem strsOf_signs (cs : List Nat) : strsOf (cs.map fun c => D.str ⟨#[c]⟩) = some (cs.map fun c => (⟨#[c]⟩ : Str)) := by
  rw [show (cs.map fun c => D.str ⟨#[c]⟩) = (cs.map fun c => (⟨#[c]⟩ : Str)).map D.str by rw [List.map_map]; rfl]
  exact strsOf_map _
def word (cs : List Nat) (spot : Int) (c : Nat) : Str := cutS ⟨cs.toArray⟩ none (some spot) ++ ⟨#[c]⟩ ++ cutS ⟨cs.toArray⟩ (some spot) none
theorem word_list (cs : List Nat) (k : Nat) (c : Nat) : (word cs k c).cps.toList = cs.take k ++ [c] ++ cs.drop k := by
  unfold word
  rw [app_list, app_list]
  unfold cutS
  have e : (⟨cs.toArray⟩ : Str).length = cs.length := by show cs.toArray.size = _; simp
  rw [e, HT.sIx_none, HT.sIx_none, HT.sIx_nat]
  show ((cs.toArray.toList.drop 0).take (min k cs.length - 0)) ++ [c] ++ ((cs.toArray.toList.drop (min k cs.length)).take (cs.length - min k cs.length)) = _
  rcases Nat.le_total k cs.length with h | h
  · rw [Nat.min_eq_left h]
    simp [List.take_of_length_le]
  · rw [Nat.min_eq_right h]
    simp [List.take_of_length_le h, List.drop_of_length_le h]
theorem cutS_len (z : Str) (lo hi : Option Int) : (cutS z lo hi).length ≤ z.length := by
  unfold cutS
  show (List.toArray _).size ≤ z.cps.size
  simp
  omega
theorem app_len (x y : Str) : (x ++ y).length = x.length + y.length := by
  show (x.cps ++ y.cps).size = _
  simp
  rfl
theorem sum_ones : ∀ cs : List Nat, ((cs.map fun c => (⟨#[c]⟩ : Str)).map (·.length)).sum = cs.length
  | [] => rfl
  | c :: cs => by
    rw [List.map_cons, List.map_cons, List.sum_cons, sum_ones cs, List.length_cons]
    show 1 + cs.length = _
    omega
theorem word_nm {cs : List Nat} {k c : Nat} (hl : cs.length ≤ 7) (h : ∀ x ∈ cs, x ∈ alpha.cps.toList) (hc : c ∈ alpha.cps.toList) : isNm (word cs k c) = true := by
  have e := word_list cs k c
  have el : (word cs k c).length = cs.length + 1 := by
    show (word cs k c).cps.size = _
    rw [← Array.length_toList, e]
    simp
    omega
  unfold isNm
  rw [Bool.and_eq_true, el, e]
  refine ⟨decide_eq_true (by omega), List.all_eq_true.mpr fun x hx => decide_eq_true ?_⟩
  rcases List.mem_append.mp hx with hx | hx
  · rcases List.mem_append.mp hx with hx | hx
    · exact h x (List.mem_of_mem_take hx)
    · rw [List.mem_singleton.mp hx]; exact hc
  · exact h x (List.mem_of_mem_drop hx)
theorem ex__law_words (A : Ad) : ∃ m : List D → Sto → Res D, (∀ {P : Program} {w : World} {K : PySem.W.Frag} {mg : Str → Option Value} {base : Heap}, Txt P w K mg base A → FnOk P w K mg base (L2.CX P w) 3 A._law_words A.fd__law_words ["_law_bag_here", "_law_many"] (spF 2 m)) ∧
  ∀ (L : Pl) (b : Bag) (n : Int), 0 ≤ n → n < 100 → ∃ (ws : List Str) (b' : Bag), m [.hot L.i, .int n] (bg L b) = .ok (.lst (ws.map .str)) (bg L b') ∧ (ws.length : Int) = n ∧ (∀ w ∈ ws, isNm w = true) := by
  refine ⟨runF ["_law_bag_here", "_law_many", "_law_letters", "_law_stem", "_law_spot", "_law_first", "_law_pace", "_law_k"] _, fun {P w K mg base} T => fnd (k := 2) _ T.F__law_words sc__law_words fun cdv A' outer s H E hr => ⟨_, _, (dss_cons (ds_set 2 sc__law_words.nd de_str)
  (dss_cons (ds_set 3 sc__law_words.nd (de_join (K := K) de_str (de_lc (own := [("_law_k", 7)]) (g := gName 7) ⟨blkOk_by (own := [("_law_k", 7)]) (N := ["_law_bag_here", "_law_many", "_law_letters", "_law_stem", "_law_spot", "_law_first", "_law_pace", "_law_k"]) (sc := defScope s__law_words) (by decide +kernel), fun _ _ _ _ _ => pg_name (i := 7) sc__law_words.nd rfl (by first | exact Or.inl rfl | exact Or.inr rfl), fun _ _ _ _ _ => (by exact dts_nil), fun _ _ _ _ _ => (by exact (de_call (ok__law_pick T) (hr.mono (by decide)) T.g__law_pick T.k__law_pick T.b__law_pick passN (da_cons (de_var 0) (da_cons (de_var 2) da_nil)))), ⟨[7], sog_name 7, by decide⟩⟩ (di_range1 T.m_range (da_cons (de_call (ok__law_pick T) (hr.mono (by decide)) T.g__law_pick T.k__law_pick T.b__law_pick pass_fn (da_cons (de_var 0) (da_cons (de_lst (da_cons de_int (da_cons de_int (da_cons de_int (da_cons de_int (da_cons de_int da_nil)))))) da_nil))) da_nil)) rfl sc__law_words.nd)))
  (dss_cons (ds_put (g := gTup K 2 (gCons (gName 4) (gCons (gName 5) gNil))) (de_tup (da_cons (de_call (ok__law_take T) (hr.mono (by decide)) T.g__law_take T.k__law_take T.b__law_take pass_fn (da_cons (de_var 0) (da_cons (de_op or_add v_add (de_callB (v_len K) cr_lenA T.m_len boot_len (da_cons (de_var 3) da_nil)) de_int) da_nil))) (da_cons (de_call (ok__law_take T) (hr.mono (by decide)) T.g__law_take T.k__law_take T.b__law_take pass_fn (da_cons (de_var 0) (da_cons de_int da_nil))) da_nil))) (pg_tup rfl (pgs_cons (pg_name (i := 4) sc__law_words.nd rfl (by first | exact Or.inl rfl | exact Or.inr rfl)) (pgs_cons (pg_name (i := 5) sc__law_words.nd rfl (by first | exact Or.inl rfl | exact Or.inr rfl)) pgs_nil))) (sog_pair K 4 5))
  (dss_cons (ds_set 6 sc__law_words.nd (de_call (ok__law_pick T) (hr.mono (by decide)) T.g__law_pick T.k__law_pick T.b__law_pick pass_fn (da_cons (de_var 0) (da_cons (de_lst (da_cons de_int (da_cons de_int (da_cons de_int (da_cons de_int da_nil))))) da_nil))))
  (dss_one (ds_ret (de_lc (own := [("_law_k", 7)]) (g := gName 7) ⟨blkOk_by (own := [("_law_k", 7)]) (N := ["_law_bag_here", "_law_many", "_law_letters", "_law_stem", "_law_spot", "_law_first", "_law_pace", "_law_k"]) (sc := defScope s__law_words) (by decide +kernel), fun _ _ _ _ _ => pg_name (i := 7) sc__law_words.nd rfl (by first | exact Or.inl rfl | exact Or.inr rfl), fun _ _ _ _ _ => (by exact dts_nil), fun _ _ _ _ _ => (by exact (de_op or_add v_add (de_op or_add v_add (de_slice (K := K) (de_var 3) do_none (do_some (de_var 4))) (de_ix (K := K) (de_var 2) (de_op op_mod v_mod (de_op or_add v_add (de_var 5) (de_op op_mul v_mul (de_var 6) (de_var 7))) de_int))) (de_slice (K := K) (de_var 3) (do_some (de_var 4)) do_none))), ⟨[7], sog_name 7, by decide⟩⟩ (di_range1 T.m_range (da_cons (de_var 1) da_nil)) rfl sc__law_words.nd))))))), fun ds S hl => Or.inr rfl⟩, ?_⟩
  intro L b n h1 h2
  obtain ⟨x, b1, e1, hx⟩ := pick_lst A L b (l := [.int 0, .int 0, .int 1, .int 3, .int 7]) (by simp) (by simp)
  obtain ⟨k, rfl, hk0, hk7⟩ : ∃ k : Int, x = .int k ∧ 0 ≤ k ∧ k ≤ 7 := by
    simp at hx
    rcases hx with rfl | rfl | rfl | rfl <;> exact ⟨_, rfl, by decide, by decide⟩
  simp
  generalize hL : lcomp _ _ _ _ (callF 2 (m__law_pick A) _) _ _ = RR
  obtain ⟨res, b2, rfl, hr, hl⟩ : ∃ res b', RR = .ok (.lst res) (bg L b') ∧ (∀ y ∈ res, ∃ c, c ∈ alpha.cps.toList ∧ y = .str ⟨#[c]⟩) ∧ res.length = (rngF 0 k).length := by
    subst hL
    refine lcomp_bag _ (rngF 0 k) b1 ?_ ?_ ?_
    · have c : -100000 < k ∧ k < 100000 := by omega
      simp [e1, c]
    · rw [rngF_len]; omega
    · intro d hd b
      obtain ⟨c, b', ex, hx⟩ := pick_str A L b (z := alpha) (by decide +kernel) (by decide +kernel)
      exact ⟨_, _, b', rfl, rfl, by simp [ex], c, hx, rfl⟩
  obtain ⟨cs, rfl, hcs⟩ := signs_from hr
  rw [List.length_map, rngF_len] at hl
  have hj : joinOk "" (cs.map fun c => (⟨#[c]⟩ : Str)) = true := by
    unfold joinOk
    rw [sum_ones, List.length_map, show (Str.ofString "").length = 0 by decide +kernel]
    exact decide_eq_true (by omega)
  have hz : (⟨cs.toArray⟩ : Str).length = cs.length := by show cs.toArray.size = _; simp
  have t1 := take_ok A L b2 (n := (cs.length : Int) + 1) (by omega) (by omega)
  obtain ⟨q1, q2⟩ := takeB_range b2 (n := (cs.length : Int) + 1) (by omega)
  have t2 := fun b => take_ok A L b (n := 26) (by omega) (by omega)
  simp [opJoin, strsOf_signs, hj, join_signs, hz, show cs.length ≤ 100000 by omega, t1, t2]
  obtain ⟨x, b3, e3, hx⟩ := pick_lst A L (takeB (takeB b2 ((cs.length : Int) + 1)).2 26).2 (l := [.int 1, .int 3, .int 7, .int 25]) (by simp) (by simp)
  obtain ⟨pace, rfl, hp1, hp2⟩ : ∃ k : Int, x = .int k ∧ 0 ≤ k ∧ k ≤ 25 := by
    simp at hx
    rcases hx with rfl | rfl | rfl | rfl <;> exact ⟨_, rfl, by decide, by decide⟩
  simp [e3]
  generalize (takeB (takeB b2 ((cs.length : Int) + 1)).2 26).1 = first
  obtain ⟨spot, hs⟩ : ∃ spot : Nat, (takeB b2 ((cs.length : Int) + 1)).1 = spot := ⟨(takeB b2 ((cs.length : Int) + 1)).1.toNat, by omega⟩
  rw [hs]
  have hidx : ∀ j : Int, ∃ c, atI alpha.cps.toList ((first + pace * j) % 26) = some c ∧ c ∈ alpha.cps.toList := fun j => by
    have z1 := Int.emod_nonneg (first + pace * j) (show (26 : Int) ≠ 0 by decide)
    have z2 := Int.emod_lt_of_pos (first + pace * j) (show (0 : Int) < 26 by decide)
    exact atI_mem z1 (by rw [show alpha.cps.toList.length = 26 by decide +kernel]; exact z2)
  have hc : -100000 < n ∧ n < 100000 := by omega
  rw [lcomp_map (S' := bg L b3) (rngF 0 n) (fun d => match d with | .int j => .str (word cs spot ((atI alpha.cps.toList ((first + pace * j) % 26)).getD 0)) | _ => .non)]
  · refine ⟨(rngF 0 n).map (fun d => match d with | .int j => word cs spot ((atI alpha.cps.toList ((first + pace * j) % 26)).getD 0) | _ => ""), ⟨b3, ?_⟩, ?_, ?_⟩
    · simp [rngF]
    · rw [List.length_map, rngF_len]; omega
    · intro w hw
      obtain ⟨d, hd, rfl⟩ := List.mem_map.mp hw
      obtain ⟨j, _, rfl⟩ := List.mem_map.mp hd
      obtain ⟨c, e4, hc4⟩ := hidx (0 + (j : Nat))
      dsimp only
      rw [e4]
      exact word_nm (by omega) hcs hc4
  · simp [hc]
  · rw [rngF_len]; omega
  · intro d hd
    obtain ⟨j, _, rfl⟩ := List.mem_map.mp hd
    obtain ⟨c, e4, hc4⟩ := hidx (0 + (j : Nat))
    refine ⟨_, rfl, rfl, ?_⟩
    have l1 := cutS_len ⟨cs.toArray⟩ none (some (spot : Int))
    have l2 := cutS_len ⟨cs.toArray⟩ (some (spot : Int)) none
    rw [hz] at l1 l2
    have l3 : (⟨#[c]⟩ : Str).length = 1 := rfl
    have hm : (-(2 ^ 64) < pace ∧ pace < 2 ^ 64) ∨ (-(2 ^ 64) < (0 + (j : Nat) : Int) ∧ (0 + (j : Nat) : Int) < 2 ^ 64) := .inl (by omega)
    have ha : (Str.ofString "abcdefghijklmnopqrstuvwxyz").length ≤ 100000 := by decide +kernel
    generalize (0 + (j : Nat) : Int) = jj at e4 hm
    have hm' : (-18446744073709551616 < pace ∧ pace < 18446744073709551616) := by omega
    dsimp only
    rw [e4]
    have l4 : (cutS ⟨cs.toArray⟩ none (some (spot : Int))).length + 1 ≤ 100000 := by omega
    have l5 : (cutS ⟨cs.toArray⟩ none (some (spot : Int)) ++ (⟨#[c]⟩ : Str)).length + (cutS ⟨cs.toArray⟩ (some (spot : Int)) none).length ≤ 100000 := by
      rw [app_len, l3]
      omega
    simp [opCut, hz, show cs.length ≤ 100000 by omega, opMul, hm', opMod, opIx, ha, e4, l3, l4, l5, word]
noncomputable def m__law_words (A : Ad) : List D → Sto → Res D := Classical.choose (ex__law_words A)
theorem ok__law_words {P : Program} {w : World} {K : PySem.W.Frag} {mg : Str → Option Value} {base : Heap} {A : Ad} (T : Txt P w K mg base A) : FnOk P w K mg base (L2.CX P w) 3 A._law_words A.fd__law_words ["_law_bag_here", "_law_many"] (spF 2 (m__law_words A)) := (Classical.choose_spec (ex__law_words A)).1 T
theorem sp__law_words (A : Ad) : ∀ (L : Pl) (b : Bag) (n : Int), 0 ≤ n → n < 100 → ∃ (ws : List Str) (b' : Bag), (m__law_words A) [.hot L.i, .int n] (bg L b) = .ok (.lst (ws.map .str)) (bg L b') ∧ (ws.length : Int) = n ∧ (∀ w ∈ ws, isNm w = true) := (Classical.choose_spec (ex__law_words A)).2
end K2

set_option Elab.async false
set_option linter.all false
set_option maxRecDepth 100000
set_option maxHeartbeats 4000000
set_option autoImplicit false
namespace K2
open PySem PySem.Spec PyProof.Rows L2 DL
/-! ### path order -/
def keyD : D → D
  | .str s => .tup [.int (namesL s).length, .tup ((namesL s).map .str)]
  | d => d
def keyP (s : Str) : PyData := .tuple [.int (namesL s).length, .tuple ((namesL s).map .str)]
def leP (a b : Str) : Bool := PySem.W.dataLe false keyP a b
theorem toPys_strs : ∀ l : List Str, toPys (l.map .str) = some (l.map .str)
  | [] => rfl
  | x :: l => by
    show ((toPy (.str x)).bind fun p => (toPys (l.map .str)).map (p :: ·)) = _
    rw [toPys_strs l]
    rfl
theorem enc_key (s : Str) : toPy (keyD (.str s)) = some (keyP s) := by
  simp [keyD, toPy, toPys, toPys_strs, keyP]
theorem alike_strs : ∀ l m : List Str, PySem.W.alikeAll (l.map PyData.str) (m.map PyData.str) = true
  | [], _ => by simp [PySem.W.alikeAll]
  | _ :: _, [] => by simp [PySem.W.alikeAll]
  | x :: l, y :: m => by simp [PySem.W.alikeAll, PySem.W.alike, alike_strs l m]
theorem alike_key (s t : Str) : PySem.W.alike (keyP s) (keyP t) = true := by
  simp [keyP, PySem.W.alike, PySem.W.alikeAll, alike_strs]
theorem depth_strs : ∀ l : List Str, PyData.depthAll (l.map PyData.str) = 0
  | [] => rfl
  | x :: l => by simp [PyData.depthAll, PyData.depth, depth_strs l]
theorem key_ok (ps : List Str) (h : ps.length ≤ 1000) : encOk ((ps.map D.str).map keyD) := by
  have em : ∀ d ∈ (ps.map D.str).map keyD, ∃ s, d = keyD (.str s) := fun d hd => by
    obtain ⟨x, hx, rfl⟩ := List.mem_map.mp hd
    obtain ⟨s, _, rfl⟩ := List.mem_map.mp hx
    exact ⟨s, rfl⟩
  have en : ∀ s, enc (keyD (.str s)) = keyP s := fun s => by unfold enc; rw [enc_key]; rfl
  refine ⟨fun d hd => ?_, fun d hd e he => ?_, .inl fun d hd => ?_, fun d hd => ?_, by simp; omega⟩
  · obtain ⟨s, rfl⟩ := em d hd
    rw [enc_key]; rfl
  · obtain ⟨x, hx, rfl⟩ := List.mem_map.mp hd
    obtain ⟨s, rfl⟩ := em x hx
    obtain ⟨y, hy, rfl⟩ := List.mem_map.mp he
    obtain ⟨t, rfl⟩ := em y hy
    rw [en, en]
    exact alike_key s t
  · obtain ⟨x, hx, rfl⟩ := List.mem_map.mp hd
    obtain ⟨s, rfl⟩ := em x hx
    rw [en]
    exact ⟨_, _, rfl⟩
  · obtain ⟨s, rfl⟩ := em d hd
    rw [en]
    simp [keyP, PyData.depth, PyData.depthAll, depth_strs]
def sortP (ps : List Str) : List Str := ps.mergeSort leP
theorem ex_in_order (A : Ad) : ∃ m : List D → Sto → Res D, (∀ {P : Program} {w : World} {K : PySem.W.Frag} {mg : Str → Option Value} {base : Heap}, Txt P w K mg base A → FnOk P w K mg base (L2.CX P w) 5 A.in_order A.fd_in_order ["paths"] (spF 1 m)) ∧
  ∀ (ps : List Str) (S : Sto), ps.length ≤ 1000 → (∀ p ∈ ps, p.length ≤ 50000) → m [.lst (ps.map .str)] S = .ok (.hot S.length) (S ++ [.lst ((sortP ps).map .str)]) := by
  refine ⟨runF ["paths"] _, fun {P w K mg base} T => fnd (k := 4) _ T.F_in_order sc_in_order fun cdv A' outer s H E hr => ⟨_, _, (dss_one (ds_ret (de_sortKH (K := K) (ok_path_key T) T.b_path_key (hr.mono (by decide)) T.m_sorted T.g_path_key (de_var 0)))), fun ds S hl => Or.inr rfl⟩, ?_⟩
  intro ps S h1 h2
  have e := fSortK_eq (m := m_path_key A) (l := ps.map .str) (S := S) keyD (fun d hd => by
    obtain ⟨s, hs, rfl⟩ := List.mem_map.mp hd
    simp [m_path_key, h2 s hs, keyD]) (key_ok ps h1)
  simp [e, hotR]
  unfold sortP
  rw [List.map_mergeSort]
  intro a ha b hb
  unfold leP PySem.W.dataLe PySem.W.sortLe
  simp [enc, enc_key]
noncomputable def m_in_order (A : Ad) : List D → Sto → Res D := Classical.choose (ex_in_order A)
theorem ok_in_order {P : Program} {w : World} {K : PySem.W.Frag} {mg : Str → Option Value} {base : Heap} {A : Ad} (T : Txt P w K mg base A) : FnOk P w K mg base (L2.CX P w) 5 A.in_order A.fd_in_order ["paths"] (spF 1 (m_in_order A)) := (Classical.choose_spec (ex_in_order A)).1 T
theorem sp_in_order (A : Ad) : ∀ (ps : List Str) (S : Sto), ps.length ≤ 1000 → (∀ p ∈ ps, p.length ≤ 50000) → (m_in_order A) [.lst (ps.map .str)] S = .ok (.hot S.length) (S ++ [.lst ((sortP ps).map .str)]) := (Classical.choose_spec (ex_in_order A)).2
def full (p : Str) : List Str := (parts p).filter fun w => decide (w ≠ ("" : Str))
theorem lc_full {p : Str} {ρ : DL.Env} {S : Sto} {i j : Nat} (hp : p.length ≤ 50000) (hi : fVar i ρ S = .ok (.str p) S) (hj : ∀ d, ∃ ρ1, gfName j d (wipeE ρ [j]) = some ρ1 ∧ fVar j ρ1 S = .ok d S) :
    lcomp [j] (itF asL (mS1 opSplit (fVar i) (fC (D.str (Str.ofString "/"))))) (gfName j) (tst (DL.bin opNe (fVar j) (fC (D.str (Str.ofString ""))))) (fVar j) ρ S = .ok (.lst ((full p).map .str)) S := by
  rw [lcomp_filter (S' := S) ((parts p).map .str) (fun d => match d with | .str x => decide (x ≠ ("" : Str)) | _ => true) id]
  · unfold full
    rw [List.filter_map, List.map_id]
    rfl
  · simp only [itF, mS1, hi]
    have : p.length ≤ 100000 := by omega
    simp [opSplit, this, parts, slash]
  · have := parts_count p
    simp; omega
  · intro d hd
    obtain ⟨x, hx, rfl⟩ := List.mem_map.mp hd
    obtain ⟨ρ1, e1, e2⟩ := hj (.str x)
    refine ⟨ρ1, e1, ?_, fun _ => e2⟩
    have := small_parts hx
    simp only [tst, DL.bin, e2]
    simp [opNe]
theorem ex__law_before (A : Ad) : ∃ m : List D → Sto → Res D, (∀ {P : Program} {w : World} {K : PySem.W.Frag} {mg : Str → Option Value} {base : Heap}, Txt P w K mg base A → FnOk P w K mg base (L2.CX P w) 1 A._law_before A.fd__law_before ["_law_one", "_law_other"] (spF 2 m)) ∧
  ∀ (p q : Str) (S : Sto), p.length ≤ 50000 → q.length ≤ 50000 → m [.str p, .str q] S = .ok (.bl (if (full p).length = (full q).length then PySem.W.dataLt (.list ((full p).map .str)) (.list ((full q).map .str)) else decide ((full p).length < (full q).length))) S := by
  refine ⟨runF ["_law_one", "_law_other", "_law_mine", "_law_yours", "_law_part"] _, fun {P w K mg base} T => fnd (k := 0) _ T.F__law_before sc__law_before fun cdv A' outer s H E hr => ⟨_, _, (dss_cons (ds_setLc 2 (own := [("_law_part", 4)]) (g := gName 4) ⟨blkOk_by (own := [("_law_part", 4)]) (N := ["_law_one", "_law_other", "_law_mine", "_law_yours", "_law_part"]) (sc := defScope s__law_before) (by decide +kernel), fun _ _ _ _ _ => pg_name (i := 4) sc__law_before.nd rfl (by first | exact Or.inl rfl | exact Or.inr rfl), fun _ _ _ _ _ => (by exact (dts_one (dt_cmp (or_ne (K := K) hr.units) (v_ne K) (de_var 4) de_str rfl))), fun _ _ _ _ _ => (by exact (de_var 4)), ⟨[4], sog_name 4, by decide⟩⟩ (di_list (K := K) (de_split (de_var 0) de_str)) sc__law_before.nd)
  (dss_cons (ds_setLc 3 (own := [("_law_part", 4)]) (g := gName 4) ⟨blkOk_by (own := [("_law_part", 4)]) (N := ["_law_one", "_law_other", "_law_mine", "_law_yours", "_law_part"]) (sc := defScope s__law_before) (by decide +kernel), fun _ _ _ _ _ => pg_name (i := 4) sc__law_before.nd rfl (by first | exact Or.inl rfl | exact Or.inr rfl), fun _ _ _ _ _ => (by exact (dts_one (dt_cmp (or_ne (K := K) hr.units) (v_ne K) (de_var 4) de_str rfl))), fun _ _ _ _ _ => (by exact (de_var 4)), ⟨[4], sog_name 4, by decide⟩⟩ (di_list (K := K) (de_split (de_var 1) de_str)) sc__law_before.nd)
  (dss_one (ds_ret (de_if (dt_cmp (or_eq (K := K) hr.units) (v_eq K) (de_callB (v_len K) cr_lenA T.m_len boot_len (da_cons (de_var 2) da_nil)) (de_callB (v_len K) cr_lenA T.m_len boot_len (da_cons (de_var 3) da_nil)) rfl) (de_cmp ((or_ltX (K := K) hr.units)) ((v_ltX K)) (de_var 2) (de_var 3) rfl) (de_cmp (op_lt) (v_lt) (de_callB (v_len K) cr_lenA T.m_len boot_len (da_cons (de_var 2) da_nil)) (de_callB (v_len K) cr_lenA T.m_len boot_len (da_cons (de_var 3) da_nil)) rfl)))))), fun ds S hl => Or.inr rfl⟩, ?_⟩
  intro p q S h1 h2
  simp only [runF]
  simp
  rw [lc_full h1 (by simp) (fun d => by simp)]
  simp
  rw [lc_full h2 (by simp) (fun d => by simp)]
  by_cases hl : (full p).length = (full q).length
  · simp [hl, opLtX, isNoP, toPy, toPys_strs, PySem.W.alike, alike_strs, PyData.depth, depth_strs]
  · have hl' : ((full p).length : Int) ≠ (full q).length := fun z => hl (Int.ofNat_inj.mp z)
    simp [hl, hl']
noncomputable def m__law_before (A : Ad) : List D → Sto → Res D := Classical.choose (ex__law_before A)
theorem ok__law_before {P : Program} {w : World} {K : PySem.W.Frag} {mg : Str → Option Value} {base : Heap} {A : Ad} (T : Txt P w K mg base A) : FnOk P w K mg base (L2.CX P w) 1 A._law_before A.fd__law_before ["_law_one", "_law_other"] (spF 2 (m__law_before A)) := (Classical.choose_spec (ex__law_before A)).1 T
theorem sp__law_before (A : Ad) : ∀ (p q : Str) (S : Sto), p.length ≤ 50000 → q.length ≤ 50000 → (m__law_before A) [.str p, .str q] S = .ok (.bl (if (full p).length = (full q).length then PySem.W.dataLt (.list ((full p).map .str)) (.list ((full q).map .str)) else decide ((full p).length < (full q).length))) S := (Classical.choose_spec (ex__law_before A)).2
end K2

set_option Elab.async false
set_option linter.all false
set_option maxRecDepth 100000
set_option maxHeartbeats 4000000
set_option autoImplicit false
namespace K2
open PySem PySem.Spec PyProof.Rows L2 DL
/-- the first that is no name -/
def badOf : List D → Option D
  | [] => none
  | d :: ds => if isNmD d = some false then some d else badOf ds
theorem for_names {A : Ad} {d0 : D} {S : Sto} : ∀ (ds : List D) (x : Option D), (∀ d ∈ ds, ∃ b, isNmD d = some b) → ∃ y, forF (gfName 1) (fIf (notB (tst (callF 1 (m_is_name A) (consA (fVar 1) fNilA)))) (fRaise A.C_BadName [Str.ofString "name"] (consA (fVar 1) fNilA)) fNext) ds [some d0, x] S =
    (match badOf ds with | none => .nx [some d0, y] S | some d => .ex A.C_BadName [("name", d)] [some d0, some d] S)
  | [], x, _ => ⟨x, rfl⟩
  | d :: ds, x, h => by
    obtain ⟨b, hb⟩ := h d List.mem_cons_self
    obtain ⟨y, hy⟩ := for_names ds (some d) fun d' hd => h d' (List.mem_cons_of_mem _ hd)
    cases b with
    | true =>
      refine ⟨y, ?_⟩
      unfold forF
      simp [m_is_name, hb, badOf] at hy ⊢
      exact hy
    | false =>
      refine ⟨none, ?_⟩
      unfold forF
      simp [m_is_name, hb, badOf, fldD]
theorem ex_path_of (A : Ad) : ∃ m : List D → Sto → Res D, (∀ {P : Program} {w : World} {K : PySem.W.Frag} {mg : Str → Option Value} {base : Heap}, Txt P w K mg base A → FnR P w K mg base (L2.CX P w) 3 A.path_of (spS m)) ∧
  ∀ (ds : List D) (S : Sto), ds.length ≤ 100000 → (∀ d ∈ ds, ∃ b, isNmD d = some b) → m ds S = (match badOf ds with
    | some d => .exc A.C_BadName [("name", d)] S
    | none => lift (opJoin S "/" (.tup ds)) S) := by
  refine ⟨fun ds => runF ["names", "name"] _ [.tup ds], fun {P w K mg base} T => fnd_star (k := 2) _ T.F_path_of sc_path_of (fun _ _ _ _ _ _ rest => match rest with | [] => rfl | _ :: _ => rfl) fun cdv A' outer s H E hr => ⟨_, _, (dss_cons (ds_for (g := gName 1) own_fn (di_tup (K := K) (de_var 0)) (pg_name (i := 1) sc_path_of.nd rfl (by first | exact Or.inl rfl | exact Or.inr rfl)) (sog_name 1) (dss_one (ds_if (dt_not (dt_val (de_call (ok_is_name T) (hr.mono (by decide)) T.g_is_name T.k_is_name T.b_is_name pass_fn (da_cons (de_var 1) da_nil)))) (dss_one (ds_raise T.x_BadName (hr.mono (by decide)) takes_fn rfl (da_cons (de_var 1) da_nil))) dss_nil)))
  (dss_one (ds_ret (de_join (K := K) de_str (de_var 0))))), fun ds S => Or.inr rfl⟩, ?_⟩
  intro ds S h1 h2
  simp
  obtain ⟨y, hy⟩ := for_names (A := A) (d0 := .tup ds) (S := S) ds none h2
  rw [hy]
  cases hb : badOf ds with
  | some d => simp
  | none =>
    simp
    cases opJoin S (Str.ofString "/") (D.tup ds) <;> simp [lift]
noncomputable def m_path_of (A : Ad) : List D → Sto → Res D := Classical.choose (ex_path_of A)
theorem ok_path_of {P : Program} {w : World} {K : PySem.W.Frag} {mg : Str → Option Value} {base : Heap} {A : Ad} (T : Txt P w K mg base A) : FnR P w K mg base (L2.CX P w) 3 A.path_of (spS (m_path_of A)) := (Classical.choose_spec (ex_path_of A)).1 T
theorem sp_path_of (A : Ad) : ∀ (ds : List D) (S : Sto), ds.length ≤ 100000 → (∀ d ∈ ds, ∃ b, isNmD d = some b) → (m_path_of A) ds S = (match badOf ds with
    | some d => .exc A.C_BadName [("name", d)] S
    | none => lift (opJoin S "/" (.tup ds)) S) := (Classical.choose_spec (ex_path_of A)).2
end K2

set_option Elab.async false
set_option linter.all false
set_option maxRecDepth 100000
set_option maxHeartbeats 4000000
set_option autoImplicit false
namespace K2
open PySem PySem.Spec PyProof.Rows L2 DL
theorem ex__law_made (A : Ad) : ∃ m : List D → Sto → Res D, (∀ {P : Program} {w : World} {K : PySem.W.Frag} {mg : Str → Option Value} {base : Heap}, Txt P w K mg base A → FnOk P w K mg base (L2.CX P w) 4 A._law_made A.fd__law_made ["_law_values"] (spF 1 m)) ∧
  ∀ (ds : List D) (S : Sto), ds.length ≤ 3 → (∀ d ∈ ds, ∃ b, isNmD d = some b) → m [.lst ds] S = (match badOf ds with
    | some d => .ok (.tup [.str "BadName", d]) S
    | none => (lift (opJoin S "/" (.tup ds)) S).bind fun j S => .ok (.lst [j]) S) := by
  refine ⟨runF ["_law_values", "e", "_law_own"] _, fun {P w K mg base} T => fnd (k := 3) _ T.F__law_made sc__law_made fun cdv A' outer s H E hr => ⟨_, _, (dss_one (ds_tryAs (i := 1) (subOf A.C_BadName) sc__law_made.nd ⟨rfl, by decide, .inl T.x_BadName.gC⟩ takes_fn rfl (subOf_ok T.xm_BadName) (fun W pn xe tk _ => (dss_cons (ds_if (dt_cmp (or_eq (K := K) hr.units) (v_eq K) (de_callB (v_len K) cr_lenA T.m_len boot_len (da_cons (de_var 0) da_nil)) de_int rfl) (dss_one (ds_ret (de_lst (da_cons (de_callR0 (ok_path_of T) (hr.mono (by decide)) T.g_path_of T.k_path_of (pass_tk tk)) da_nil)))) dss_nil)
  (dss_cons (ds_if (dt_cmp (or_eq (K := K) hr.units) (v_eq K) (de_callB (v_len K) cr_lenA T.m_len boot_len (da_cons (de_var 0) da_nil)) de_int rfl) (dss_one (ds_ret (de_lst (da_cons (de_callR (ok_path_of T) (hr.mono (by decide)) T.g_path_of T.k_path_of (pass_tk tk) (da_cons (de_ix (K := K) (de_var 0) de_int) da_nil)) da_nil)))) dss_nil)
  (dss_cons (ds_if (dt_cmp (or_eq (K := K) hr.units) (v_eq K) (de_callB (v_len K) cr_lenA T.m_len boot_len (da_cons (de_var 0) da_nil)) de_int rfl) (dss_one (ds_ret (de_lst (da_cons (de_callR (ok_path_of T) (hr.mono (by decide)) T.g_path_of T.k_path_of (pass_tk tk) (da_cons (de_ix (K := K) (de_var 0) de_int) (da_cons (de_ix (K := K) (de_var 0) de_int) da_nil))) da_nil)))) dss_nil)
  (dss_one (ds_ret (de_lst (da_cons (de_callR (ok_path_of T) (hr.mono (by decide)) T.g_path_of T.k_path_of (pass_tk tk) (da_cons (de_ix (K := K) (de_var 0) de_int) (da_cons (de_ix (K := K) (de_var 0) de_int) (da_cons (de_ix (K := K) (de_var 0) de_int) da_nil)))) da_nil)))))))) (fun a oe cls d pn hz hf => (dss_cons (ds_set 2 sc__law_made.nd (de_and (de_callB (v_isX T.xi_BadName_ValueError) (cr_isX T.xe_BadName hz hf) T.m_isinstance boot_isinstance (da_cons (de_var 1) (da_cons (de_ty "ValueError" T.m_ValueError (by decide +kernel)) da_nil))) (de_one (de_not (de_callB (v_isX T.xi_BadName_BadPath_BadEntry) (cr_isX T.xe_BadName hz hf) T.m_isinstance boot_isinstance (da_cons (de_var 1) (da_cons (de_tup (da_cons (de_gRef T.x_BadPath.gC) (da_cons (de_gRef T.x_BadEntry.gC) da_nil))) da_nil)))))))
  (dss_one (ds_ret (de_if (dt_val (de_var 2)) (de_tup (da_cons de_str (da_cons (de_xf T.xf_BadName T.xn_BadName_name hz hf (de_var 1)) da_nil))) (de_tup (da_cons de_str da_nil))))))))), fun ds S hl => Or.inr rfl⟩, ?_⟩
  intro ds S h1 h2
  have hp := sp_path_of A ds S (by omega) h2
  simp only [runF, startE]
  cases hb : badOf ds with
  | some d =>
    rw [hb] at hp
    dsimp only at hp
    rw [tryAs_ex (.rt (.tup [.str "BadName", d]) S) (C := A.C_BadName) (fs := [("name", d)]) (ρ1 := [some (.lst ds), none, none]) (S1 := S) ?_ (subOf_self _) ?_]
    · match ds, h1 with
      | [], _ => cases hb
      | [a], _ => simp [opIx, atI, ixN, hp]
      | [a, b], _ => simp [opIx, atI, ixN, hp]
      | [a, b, c], _ => simp [opIx, atI, ixN, hp]
    · intro a dd
      simp [fIsX, List.lookup]
  | none =>
    rw [hb] at hp
    dsimp only at hp
    cases hj : opJoin S "/" (.tup ds) with
    | none =>
      rw [hj] at hp
      rw [tryAs_bad]
      · simp
      match ds, h1 with
      | [], _ => cases hj
      | [a], _ => simp [opIx, atI, ixN, hp]
      | [a, b], _ => simp [opIx, atI, ixN, hp]
      | [a, b, c], _ => simp [opIx, atI, ixN, hp]
    | some j =>
      rw [hj] at hp
      rw [tryAs_rt (d := .lst [j]) (S1 := S)]
      · simp
      match ds, h1 with
      | [], _ => simp [opIx, atI, ixN, hp]
      | [a], _ => simp [opIx, atI, ixN, hp]
      | [a, b], _ => simp [opIx, atI, ixN, hp]
      | [a, b, c], _ => simp [opIx, atI, ixN, hp]
noncomputable def m__law_made (A : Ad) : List D → Sto → Res D := Classical.choose (ex__law_made A)
theorem ok__law_made {P : Program} {w : World} {K : PySem.W.Frag} {mg : Str → Option Value} {base : Heap} {A : Ad} (T : Txt P w K mg base A) : FnOk P w K mg base (L2.CX P w) 4 A._law_made A.fd__law_made ["_law_values"] (spF 1 (m__law_made A)) := (Classical.choose_spec (ex__law_made A)).1 T
theorem sp__law_made (A : Ad) : ∀ (ds : List D) (S : Sto), ds.length ≤ 3 → (∀ d ∈ ds, ∃ b, isNmD d = some b) → (m__law_made A) [.lst ds] S = (match badOf ds with
    | some d => .ok (.tup [.str "BadName", d]) S
    | none => (lift (opJoin S "/" (.tup ds)) S).bind fun j S => .ok (.lst [j]) S) := (Classical.choose_spec (ex__law_made A)).2
end K2
set_option Elab.async false
set_option linter.all false
set_option maxRecDepth 100000
set_option maxHeartbeats 4000000
set_option autoImplicit false
namespace K2
open PySem PySem.Spec PyProof.Rows L2 DL
/-! ### paths made of names -/
theorem nm_len {w : Str} (h : isNm w = true) : 1 ≤ w.length ∧ w.length ≤ 8 := by
  unfold isNm at h
  simp only [Bool.and_eq_true, decide_eq_true_eq] at h
  exact h.1
theorem nm_sign {w : Str} (h : isNm w = true) {c : Nat} (hc : c ∈ w.cps.toList) : 97 ≤ c ∧ c ≤ 122 := by
  unfold isNm at h
  simp only [Bool.and_eq_true, List.all_eq_true, decide_eq_true_eq] at h
  have q := h.2 c hc
  have : ∀ c ∈ alpha.cps.toList, 97 ≤ c ∧ c ≤ 122 := by decide +kernel
  exact this c q
def tame (s : Str) : Prop := s.length ≤ 1000 ∧ ∀ c ∈ s.cps.toList, c < 16 ^ 8
theorem nm_tame {w : Str} (h : isNm w = true) : tame w := ⟨by have := nm_len h; omega, fun c hc => by have := nm_sign h hc; omega⟩
theorem joinL_len {a : List Nat} : ∀ {l : List (List Nat)} {n : Nat}, (∀ x ∈ l, x.length ≤ n) → (TL.joinL a l).length ≤ l.length * (n + a.length)
  | [], n, _ => by simp [TL.joinL]
  | [x], n, h => by have := h x (by simp); simp [TL.joinL]; omega
  | x :: y :: r, n, h => by
    have h1 := h x (by simp)
    have ih := joinL_len (a := a) (l := y :: r) (n := n) fun z hz => h z (by simp only [List.mem_cons] at hz ⊢; exact .inr hz)
    show (x ++ (a ++ TL.joinL a (y :: r))).length ≤ _
    rw [List.length_append, List.length_append]
    have e : (x :: y :: r).length * (n + a.length) = (n + a.length) + (y :: r).length * (n + a.length) := by
      rw [List.length_cons, Nat.succ_mul, Nat.add_comm]
    rw [e]
    omega
theorem joinL_mem {a : List Nat} {c : Nat} : ∀ {l : List (List Nat)}, c ∈ TL.joinL a l → c ∈ a ∨ ∃ x ∈ l, c ∈ x
  | [], h => by simp [TL.joinL] at h
  | [x], h => .inr ⟨x, by simp, by simpa [TL.joinL] using h⟩
  | x :: y :: r, h => by
    have h' : c ∈ x ++ (a ++ TL.joinL a (y :: r)) := h
    rcases List.mem_append.mp h' with q | q
    · exact .inr ⟨x, by simp, q⟩
    · rcases List.mem_append.mp q with q | q
      · exact .inl q
      · rcases joinL_mem q with q | ⟨z, hz, q⟩
        · exact .inl q
        · exact .inr ⟨z, List.mem_cons_of_mem _ hz, q⟩
theorem join_tl (ns : List Str) : TL.tl (Txt.join slash ns) = TL.joinL (TL.tl slash) (ns.map TL.tl) := by rw [TL.join_eq, TL.tl_join]
theorem tl_len (s : Str) : (TL.tl s).length = s.length := by
  show s.cps.toList.length = s.cps.size
  simp
theorem join_len {ns : List Str} (h : ∀ w ∈ ns, isNm w = true) : (Txt.join slash ns).length ≤ ns.length * 9 := by
  have z := joinL_len (a := TL.tl slash) (l := ns.map TL.tl) (n := 8) fun x hx => by
    obtain ⟨w, hw, rfl⟩ := List.mem_map.mp hx
    rw [tl_len]
    exact (nm_len (h w hw)).2
  rw [← join_tl, tl_len, List.length_map] at z
  exact z
theorem join_tame {ns : List Str} (h : ∀ w ∈ ns, isNm w = true) (hl : ns.length ≤ 100) : tame (Txt.join slash ns) := by
  refine ⟨by have := join_len h; omega, fun c hc => ?_⟩
  have hc' : c ∈ TL.tl (Txt.join slash ns) := hc
  rw [join_tl] at hc'
  rcases joinL_mem hc' with q | ⟨x, hx, q⟩
  · have : ∀ c ∈ TL.tl slash, c < 16 ^ 8 := by decide +kernel
    exact this c q
  · obtain ⟨w, hw, rfl⟩ := List.mem_map.mp hx
    have := nm_sign (h w hw) q
    omega
theorem parts_join {ns : List Str} (h : ∀ w ∈ ns, isNm w = true) (hne : ns ≠ []) : parts (Txt.join slash ns) = ns := by
  unfold parts
  refine TL.split_join (y := slash) (s := 47) (S := []) (by decide +kernel) (by decide +kernel) hne fun p hp hc => ?_
  have := nm_sign (h p hp) hc
  omega
theorem join_empty {ns : List Str} (h : ∀ w ∈ ns, isNm w = true) (e : Txt.join slash ns = "") : ns = [] := by
  cases hn : ns with
  | nil => rfl
  | cons w r =>
    exfalso
    have hp := parts_join h (by rw [hn]; simp)
    rw [e] at hp
    have : parts "" = [("" : Str)] := by decide +kernel
    rw [this] at hp
    have := nm_len (h "" (by rw [← hp]; simp))
    have e0 : ("" : Str).length = 0 := by decide +kernel
    omega
theorem names_join {ns : List Str} (h : ∀ w ∈ ns, isNm w = true) : namesL (Txt.join slash ns) = ns := by
  unfold namesL
  by_cases hn : ns = []
  · subst hn; decide +kernel
  · rw [if_neg fun e => hn (join_empty h e)]
    exact parts_join h hn
theorem full_join {ns : List Str} (h : ∀ w ∈ ns, isNm w = true) : full (Txt.join slash ns) = ns := by
  unfold full
  by_cases hn : ns = []
  · subst hn; decide +kernel
  · rw [parts_join h hn]
    refine List.filter_eq_self.mpr fun w hw => decide_eq_true fun e => ?_
    have := nm_len (h w hw)
    rw [e] at this
    have e0 : ("" : Str).length = 0 := by decide +kernel
    omega
theorem isPt_join {ns : List Str} (h : ∀ w ∈ ns, isNm w = true) : isPt (Txt.join slash ns) = true := by
  unfold isPt
  by_cases hn : ns = []
  · subst hn; decide +kernel
  · rw [parts_join h hn]
    simp only [Bool.or_eq_true]
    exact .inr (List.all_eq_true.mpr h)
/-! ### texts of data -/
theorem repr_len {s : Str} (h : tame s) : (reprText s).length ≤ 10002 := by
  have := StrLaws.reprText_len s h.2
  have := h.1
  omega
theorem show_str {s : Str} (h : tame s) : okShow (.str s) = true := by
  have := repr_len h
  have z : (2 : Nat) ^ 24 = 16777216 := by decide
  unfold okShow
  simp [PyData.showable, PyData.hasDict, PyData.depth, PyData.shown]
  refine decide_eq_true ?_
  show _ ≤ 2 ^ 24
  omega
theorem shown_strs : ∀ l : List Str, PyData.shownAll (l.map PyData.str) = l.map reprText
  | [] => rfl
  | x :: l => by simp [PyData.shownAll, PyData.shown, shown_strs l]
theorem showable_strs : ∀ l : List Str, PyData.showableAll (l.map PyData.str) = true
  | [] => rfl
  | x :: l => by simp [PyData.showableAll, PyData.showable, showable_strs l]
theorem nodict_strs : ∀ l : List Str, PyData.hasDictAll (l.map PyData.str) = false
  | [] => rfl
  | x :: l => by simp [PyData.hasDictAll, PyData.hasDict, nodict_strs l]
theorem piled_le : ∀ {l : List Str}, (∀ s ∈ l, s.length ≤ 10002) → piled l ≤ l.length * 10004
  | [], _ => by simp [piled]
  | x :: l, h => by
    have := h x (by simp)
    have ih := piled_le fun s hs => h s (List.mem_cons_of_mem _ hs)
    rw [piled_cons, List.length_cons]
    omega
theorem show_tup {l : List Str} (h : ∀ s ∈ l, tame s) (hl : l.length ≤ 1000) : okShow (.tuple (l.map .str)) = true := by
  have hp : piled (l.map reprText) ≤ l.length * 10004 := by
    have := piled_le (l := l.map reprText) fun s hs => by
      obtain ⟨w, hw, rfl⟩ := List.mem_map.mp hs
      exact repr_len (h w hw)
    rwa [List.length_map] at this
  have hj : (Str.join ", " (l.map reprText)).length ≤ l.length * 10004 := by
    by_cases hn : l.map reprText = []
    · rw [hn]; exact Nat.zero_le _
    · have := join_length_add _ hn
      omega
  have ht : (tupleText (l.map reprText)).length ≤ l.length * 10004 + 3 := by
    unfold tupleText
    rw [strLen_append, strLen_append]
    have e1 : ("(" : Str).length = 1 := by decide +kernel
    have e2 : ∀ b : Bool, ((if b = true then ",)" else ")" : String) : Str).length ≤ 2 := by decide +kernel
    have := e2 ((l.map reprText).length == 1)
    omega
  unfold okShow
  simp [PyData.showable, PyData.hasDict, PyData.depth, PyData.shown, showable_strs, nodict_strs, depth_strs, shown_strs]
  show _ ≤ 2 ^ 24
  omega
end K2
set_option Elab.async false
set_option linter.all false
set_option maxRecDepth 100000
set_option maxHeartbeats 4000000
set_option autoImplicit false
namespace K2
open PySem PySem.Spec PyProof.Rows L2 DL
theorem opEq_str (S : Sto) (s t : Str) : opEq S (.str s) (.str t) = some (.bl (decide (s = t))) := by
  simp [opEq, eqD, scD, scal]
theorem opNe_str (S : Sto) (s : Str) : opNe S (.str s) (.str s) = some (.bl false) := by
  simp [opNe, eqD, scD, scal]
theorem ex__law_path_right (A : Ad) : ∃ m : List D → Sto → Res D, (∀ {P : Program} {w : World} {K : PySem.W.Frag} {mg : Str → Option Value} {base : Heap}, Txt P w K mg base A → FnG P w K mg base (L2.CX P w) 5 A._law_path_right (spF 1 m)) ∧
  ∀ (ns : List Str) (S : Sto), (∀ w ∈ ns, isNm w = true) → ns.length ≤ 100 → m [.str (Txt.join slash ns)] S = .ok (.bl true) S := by
  refine ⟨runF ["_law_path_here", "_law_bits", "_law_due", "_law_part"] _, fun {P w K mg base} T => fnd_g (k := 4) _ T.F__law_path_right sc__law_path_right T.b__law_path_right fun cdv A' outer s H E hr hG => ⟨_, _, (dss_cons (ds_setLc 1 (own := [("_law_part", 3)]) (g := gName 3) ⟨blkOk_by (own := [("_law_part", 3)]) (N := ["_law_path_here", "_law_bits", "_law_due", "_law_part"]) (sc := defScope s__law_path_right) (by decide +kernel), fun _ _ _ _ _ => pg_name (i := 3) sc__law_path_right.nd rfl (by first | exact Or.inl rfl | exact Or.inr rfl), fun _ _ _ _ _ => (by exact (dts_one (dt_cmp (or_ne (K := K) hr.units) (v_ne K) (de_var 3) de_str rfl))), fun _ _ _ _ _ => (by exact (de_var 3)), ⟨[3], sog_name 3, by decide⟩⟩ (di_list (K := K) (de_split (de_var 0) de_str)) sc__law_path_right.nd)
  (dss_cons (ds_if (dw_pt (dw_or (dt_cmp (or_ne (K := K) hr.units) (v_ne K) (de_callB (v_repr K) (cr_repr hG hr.units) T.m_repr (by decide +kernel) (da_cons (de_call (ok_names_of T) (hr.mono (by decide)) T.g_names_of T.k_names_of T.b_names_of pass_fn (da_cons (de_var 0) da_nil)) da_nil)) (de_callB (v_repr K) (cr_repr hG hr.units) T.m_repr (by decide +kernel) (da_cons (de_callTy (v_tuple K) cr_tupleK T.m_tuple (by decide +kernel) (da_cons (de_var 1) da_nil)) da_nil)) rfl) (dw_or1 (dt_not (dt_val (de_call (ok_is_path T) (hr.mono (by decide)) T.g_is_path T.k_is_path T.b_is_path pass_fn (da_cons (de_var 0) da_nil))))))) (dss_one (ds_ret de_bl)) dss_nil)
  (dss_cons (ds_set 2 sc__law_path_right.nd (de_if (dt_cmp (or_eq (K := K) hr.units) (v_eq K) (de_var 0) de_str rfl) de_non (de_join (K := K) de_str (de_slice (K := K) (de_var 1) do_none (do_some (de_neg de_int))))))
  (dss_one (ds_ret (de_cmp (or_eq (K := K) hr.units) (v_eq K) (de_callB (v_repr K) (cr_repr hG hr.units) T.m_repr (by decide +kernel) (da_cons (de_call (ok_parent T) (hr.mono (by decide)) T.g_parent T.k_parent T.b_parent pass_fn (da_cons (de_var 0) da_nil)) da_nil)) (de_callB (v_repr K) (cr_repr hG hr.units) T.m_repr (by decide +kernel) (da_cons (de_var 2) da_nil)) rfl)))))), fun ds S hl => Or.inr rfl⟩, ?_⟩
  intro ns S h1 h2
  have hl := join_len h1
  have hp := isPt_join h1
  have hq : isPtD (.str (Txt.join slash ns)) = some true := by
    show (if (Txt.join slash ns).length ≤ 50000 then some (isPt (Txt.join slash ns)) else none) = _
    rw [if_pos (by omega), hp]
  have h5 : (Txt.join slash ns).length ≤ 50000 := by omega
  have hn : m_names_of A [.str (Txt.join slash ns)] S = .ok (.tup (ns.map .str)) S := by
    simp only [m_names_of, m_names_in, hq, lift_some, Res.bind_ok, if_true, h5, names_join h1]
  have hr : fRepr S [.tup (ns.map .str)] = some (.str (PyData.tuple (ns.map .str)).shown) := by
    simp [fRepr, toPy, toPys_strs, show_tup (fun w hw => nm_tame (h1 w hw)) (by omega : ns.length ≤ 1000)]
  have hi : m_is_path A [.str (Txt.join slash ns)] S = .ok (.bl true) S := by
    simp [m_is_path, hq]
  simp only [runF]
  simp
  rw [lc_full h5 (by simp) (fun d => by simp), full_join h1]
  simp [hn, fTuple, hr, opNe_str, hi]
  by_cases h0 : Txt.join slash ns = ""
  · have h0' : Txt.join slash ns = Str.ofString "" := h0
    have hm : m_parent A [.str (Str.ofString "")] S = .ok .non S := by
      rw [h0'] at hq
      simp [m_parent, hq]
    have hN : fRepr S [.non] = some (.str "None") := by
      have : okShow .none = true := by decide +kernel
      simp [fRepr, toPy, this, PyData.shown]
    simp [opEq_str, h0', hm, hN]
  · have h0' : ¬ Txt.join slash ns = Str.ofString "" := h0
    have hm : m_parent A [.str (Txt.join slash ns)] S = .ok (.str (Txt.join slash (cutL ns none (some (-1))))) S := by
      simp [m_parent, hq, h0', m_parent_in, h5, names_join h1]
    have hc : ∀ w ∈ cutL ns none (some (-1)), isNm w = true := fun w hw => h1 w (cutL_sub hw)
    have hcl : (cutL ns none (some (-1))).length ≤ 100 := by
      unfold cutL
      rw [List.length_take, List.length_drop]
      omega
    have hR : fRepr S [.str (Txt.join slash (cutL ns none (some (-1))))] = some (.str (reprText (Txt.join slash (cutL ns none (some (-1)))))) := by
      simp [fRepr, toPy, show_str (join_tame hc hcl), PyData.shown]
    have hj : joinOk (Str.ofString "/") (cutL ns none (some (-1))) = true := join_small hc (by omega)
    simp [opEq_str, h0', opCut, cutL_map, opJoin, strsOf_map, hj, hm, hR]
noncomputable def m__law_path_right (A : Ad) : List D → Sto → Res D := Classical.choose (ex__law_path_right A)
theorem ok__law_path_right {P : Program} {w : World} {K : PySem.W.Frag} {mg : Str → Option Value} {base : Heap} {A : Ad} (T : Txt P w K mg base A) : FnG P w K mg base (L2.CX P w) 5 A._law_path_right (spF 1 (m__law_path_right A)) := (Classical.choose_spec (ex__law_path_right A)).1 T
theorem sp__law_path_right (A : Ad) : ∀ (ns : List Str) (S : Sto), (∀ w ∈ ns, isNm w = true) → ns.length ≤ 100 → (m__law_path_right A) [.str (Txt.join slash ns)] S = .ok (.bl true) S := (Classical.choose_spec (ex__law_path_right A)).2
end K2
set_option Elab.async false
set_option linter.all false
set_option maxRecDepth 100000
set_option maxHeartbeats 4000000
set_option autoImplicit false
namespace K2
open PySem PySem.Spec PyProof.Rows L2 DL
theorem str_ok {s : Str} (h2 : ∀ c ∈ s.cps.toList, c < 1114112) : PyData.strOk s = true := by
  unfold PyData.strOk
  rw [Array.all_eq_true']
  intro c hc
  exact decide_eq_true (h2 c (by simpa using hc))
theorem nm_ok {w : Str} (h : isNm w = true) : PyData.strOk w = true := str_ok fun c hc => by have := nm_sign h hc; omega
theorem lay_strs : ∀ {l : List Str}, (∀ s ∈ l, PyData.strOk s = true) → PyData.canLayAll0 (l.map .str) = true
  | [], _ => rfl
  | x :: l, h => by simp [PyData.canLayAll0, PyData.canLay0, h x (by simp), lay_strs (l := l) fun s hs => h s (List.mem_cons_of_mem _ hs)]
theorem shaped_strs {l : List Str} (h : ∀ s ∈ l, PyData.strOk s = true) : SeqAt.shaped (.list (l.map .str)) = true := by
  simp [SeqAt.shaped, PyData.canLay0, lay_strs h, PyData.depth, depth_strs]
def oddL : List D := [.str "", .str "A", .str "a b", .str "abcdefghi", .str "a/b", .non, .int 1, .bl true, .lst [.str "a"], .tup [.str "a"]]
structure Odd (y : D) : Prop where
  ex : ∃ p, toPy y = some p ∧ SeqAt.shaped p = true ∧ (∀ s, isNm s = true → PyData.eqv (.str s) p = false) ∧ okShow (.tuple [.str "BadName", p]) = true ∧ p.depth ≤ 50
  no : isNmD y = some false
theorem odd_str {o : Str} (h : isNm o = false) (hs : SeqAt.shaped (.str o) = true) (hk : okShow (.tuple [.str "BadName", .str o]) = true) (hl : o.length ≤ 100000) : Odd (.str o) := by
  refine ⟨⟨.str o, rfl, hs, fun s h2 => ?_, hk, by simp [PyData.depth]⟩, by simp [isNmD, h, hl]⟩
  rw [PyData.eqv]
  by_cases e : s = o
  · subst e; rw [h] at h2; cases h2
  · simpa using e
theorem odd_all : ∀ y ∈ oddL, Odd y := by
  intro y hy
  simp only [oddL, List.mem_cons, List.not_mem_nil, or_false] at hy
  rcases hy with rfl | rfl | rfl | rfl | rfl | rfl | rfl | rfl | rfl | rfl
  · exact odd_str (by decide +kernel) (by decide +kernel) (by decide +kernel) (by decide +kernel)
  · exact odd_str (by decide +kernel) (by decide +kernel) (by decide +kernel) (by decide +kernel)
  · exact odd_str (by decide +kernel) (by decide +kernel) (by decide +kernel) (by decide +kernel)
  · exact odd_str (by decide +kernel) (by decide +kernel) (by decide +kernel) (by decide +kernel)
  · exact odd_str (by decide +kernel) (by decide +kernel) (by decide +kernel) (by decide +kernel)
  · exact ⟨⟨.none, rfl, by decide +kernel, fun _ _ => by rw [PyData.eqv], by decide +kernel, by decide +kernel⟩, rfl⟩
  · exact ⟨⟨.int 1, rfl, by decide +kernel, fun _ _ => by rw [PyData.eqv], by decide +kernel, by decide +kernel⟩, rfl⟩
  · exact ⟨⟨.bool true, rfl, by decide +kernel, fun _ _ => by rw [PyData.eqv], by decide +kernel, by decide +kernel⟩, rfl⟩
  · exact ⟨⟨.list [.str "a"], rfl, by decide +kernel, fun _ _ => by rw [PyData.eqv], by decide +kernel, by decide +kernel⟩, rfl⟩
  · exact ⟨⟨.tuple [.str "a"], rfl, by decide +kernel, fun _ _ => by rw [PyData.eqv], by decide +kernel, by decide +kernel⟩, rfl⟩
theorem toPys_map (l : List Str) : toPys (l.map .str) = some (l.map .str) := toPys_strs l
/-- a drawn value: one of the letters, or an odd one -/
def Val (ls : List Str) (y : D) : Prop := (∃ w ∈ ls, y = .str w) ∨ Odd y
theorem val_in {ls : List Str} (hls : ∀ w ∈ ls, isNm w = true) {y : D} (h : Val ls y) (S : Sto) : ∃ b, isNmD y = some b ∧ opNotIn S y (.lst (ls.map .str)) = some (.bl (!b)) := by
  have hsh : SeqAt.shaped (.list (ls.map .str)) = true := shaped_strs fun s hs => nm_ok (hls s hs)
  rcases h with ⟨w, hw, rfl⟩ | h
  · refine ⟨true, ?_, ?_⟩
    · have := nm_len (hls w hw)
      simp [isNmD, hls w hw, show w.length ≤ 100000 by omega]
    · have h1 : SeqAt.shaped (.str w) = true := by simp [SeqAt.shaped, PyData.canLay0, nm_ok (hls w hw), PyData.depth]
      simp [opNotIn, inD, toPy, toPys_map, h1, hsh]
      exact ⟨w, hw, by simp [PyData.eqv]⟩
  · obtain ⟨p, hp, hs, hne, _⟩ := h.ex
    refine ⟨false, h.no, ?_⟩
    have hc : cl S y = y := by
      cases y <;> first | rfl | cases hp
    simp [opNotIn, hc, inD, hp, toPys_map, hs, hsh]
    exact fun x hx => hne x (hls x hx)
theorem bad_filter {ls : List Str} (hls : ∀ w ∈ ls, isNm w = true) : ∀ {vs : List D}, (∀ y ∈ vs, Val ls y) → (vs.filter fun y => decide (isNmD y = some false)).head? = badOf vs
  | [], _ => rfl
  | y :: vs, h => by
    unfold badOf
    by_cases e : isNmD y = some false
    · simp [e]
    · have ih := bad_filter hls fun z hz => h z (List.mem_cons_of_mem _ hz)
      rw [if_neg e, List.filter_cons_of_neg (by simpa using e)]
      exact ih
theorem bad_mem : ∀ {vs : List D} {y : D}, badOf vs = some y → y ∈ vs ∧ isNmD y = some false
  | [], _, h => by cases h
  | z :: vs, y, h => by
    unfold badOf at h
    split at h
    · rename_i e
      cases h
      exact ⟨List.mem_cons_self, e⟩
    · exact ⟨List.mem_cons_of_mem _ (bad_mem h).1, (bad_mem h).2⟩
theorem good_strs {ls : List Str} (hls : ∀ w ∈ ls, isNm w = true) : ∀ {vs : List D}, (∀ y ∈ vs, Val ls y) → badOf vs = none → ∃ ns : List Str, vs = ns.map .str ∧ ∀ w ∈ ns, w ∈ ls
  | [], _, _ => ⟨[], rfl, fun _ h => nomatch h⟩
  | y :: vs, h, hb => by
    unfold badOf at hb
    split at hb
    · cases hb
    · rename_i e
      obtain ⟨ns, rfl, hn⟩ := good_strs hls (fun z hz => h z (List.mem_cons_of_mem _ hz)) hb
      rcases h y List.mem_cons_self with ⟨w, hw, rfl⟩ | o
      · exact ⟨w :: ns, rfl, fun u hu => by
          rcases List.mem_cons.mp hu with q | q
          · rw [q]; exact hw
          · exact hn u q⟩
      · exact absurd o.no e
theorem show_lst1 {s : Str} (h : tame s) : okShow (.list [.str s]) = true := by
  have := repr_len h
  have e : (PyData.list [.str s]).shown = listText [reprText s] := by simp [PyData.shown, PyData.shownAll]
  have hl : (listText [reprText s]).length ≤ 10010 := by
    unfold listText
    have e1 : ("[" : Str).length = 1 := by decide +kernel
    have e2 : ("]" : Str).length = 1 := by decide +kernel
    simp only [textFrom, strLen_append, e2]
    have e3 : (Str.ofString (if 0 > 0 then ", " else "")).length = 0 := by decide +kernel
    omega
  unfold okShow
  rw [e]
  simp [PyData.showable, PyData.showableAll, PyData.hasDict, PyData.hasDictAll, PyData.depth, PyData.depthAll]
  show _ ≤ 2 ^ 24
  omega
theorem pys_len : ∀ {l : List D} {ps : List PyData}, toPys l = some ps → ps.length = l.length
  | [], ps, h => by cases h; rfl
  | d :: l, ps, h => by
    obtain ⟨p, _, h⟩ := Option.bind_eq_some_iff.mp h
    obtain ⟨qs, h2, rfl⟩ := Option.map_eq_some_iff.mp h
    simp [pys_len h2]
theorem pys_of : ∀ {l : List D}, (∀ y ∈ l, ∃ p, toPy y = some p ∧ SeqAt.shaped p = true) → l.length ≤ 10 → (∀ y ∈ l, ∀ p, toPy y = some p → p.depth ≤ 50) → ∃ ps, toPys l = some ps ∧ SeqAt.shaped (.list ps) = true
  | [], _, _, _ => ⟨[], rfl, by decide +kernel⟩
  | y :: l, h, hl, hd => by
    obtain ⟨p, e1, e2⟩ := h y List.mem_cons_self
    obtain ⟨ps, e3, e4⟩ := pys_of (l := l) (fun z hz => h z (List.mem_cons_of_mem _ hz)) (by simp at hl; omega) (fun z hz => hd z (List.mem_cons_of_mem _ hz))
    have e5 := hd y List.mem_cons_self p e1
    refine ⟨p :: ps, by show ((toPy y).bind fun p => (toPys l).map (p :: ·)) = _; rw [e1, e3]; rfl, ?_⟩
    have g1 := Bool.and_eq_true_iff.mp (show (p.canLay0 && decide (p.depth ≤ 64)) = true from e2)
    have g2 := Bool.and_eq_true_iff.mp (show ((PyData.list ps).canLay0 && decide ((PyData.list ps).depth ≤ 64)) = true from e4)
    have g3 : (PyData.list (p :: ps)).depth = max p.depth (PyData.depthAll ps) + 1 := by simp [PyData.depth, PyData.depthAll]
    have g4 : (PyData.list ps).depth = PyData.depthAll ps + 1 := by simp [PyData.depth]
    have g5 : (PyData.list (p :: ps)).canLay0 = (p.canLay0 && (PyData.list ps).canLay0) := by simp [PyData.canLay0, PyData.canLayAll0]
    have g6 := of_decide_eq_true g2.2
    show ((PyData.list (p :: ps)).canLay0 && decide ((PyData.list (p :: ps)).depth ≤ 64)) = true
    rw [g5, g1.1, g2.1, g3]
    exact decide_eq_true (by omega)
end K2
set_option Elab.async false
set_option linter.all false
set_option maxRecDepth 100000
set_option maxHeartbeats 4000000
set_option autoImplicit false
namespace K2
open PySem PySem.Spec PyProof.Rows L2 DL
theorem ex__law_made_right (A : Ad) : ∃ m : List D → Sto → Res D, (∀ {P : Program} {w : World} {K : PySem.W.Frag} {mg : Str → Option Value} {base : Heap}, Txt P w K mg base A → FnG P w K mg base (L2.CX P w) 5 A._law_made_right (spF 2 m)) ∧
  ∀ (L : Pl) (b : Bag) (ls : List Str), ls ≠ [] → ls.length < 100 → (∀ w ∈ ls, isNm w = true) → ∃ b' : Bag, m [.hot L.i, .lst (ls.map .str)] (bg L b) = .ok (.bl true) (bg L b') := by
  refine ⟨runF ["_law_bag_here", "_law_letters", "_law_odd", "_law_values", "_law_wrong", "_law_due", "_law_k", "_law_value"] _, fun {P w K mg base} T => fnd_g (k := 4) _ T.F__law_made_right sc__law_made_right T.b__law_made_right fun cdv A' outer s H E hr hG => ⟨_, _, (dss_cons (ds_set 2 sc__law_made_right.nd (de_lst (da_cons de_str (da_cons de_str (da_cons de_str (da_cons de_str (da_cons de_str (da_cons de_non (da_cons de_int (da_cons de_bl (da_cons (de_lst (da_cons de_str da_nil)) (da_cons (de_tup (da_cons de_str da_nil)) da_nil))))))))))))
  (dss_cons (ds_setLc 3 (own := [("_law_k", 6)]) (g := gName 6) ⟨blkOk_by (own := [("_law_k", 6)]) (N := ["_law_bag_here", "_law_letters", "_law_odd", "_law_values", "_law_wrong", "_law_due", "_law_k", "_law_value"]) (sc := defScope s__law_made_right) (by decide +kernel), fun _ _ _ _ _ => pg_name (i := 6) sc__law_made_right.nd rfl (by first | exact Or.inl rfl | exact Or.inr rfl), fun _ _ _ _ _ => (by exact dts_nil), fun _ _ _ _ _ => (by exact (de_call (ok__law_pick T) (hr.mono (by decide)) T.g__law_pick T.k__law_pick T.b__law_pick passN (da_cons (de_var 0) (da_cons (de_op or_add v_add (de_var 1) (de_lst (da_cons (de_call (ok__law_pick T) (hr.mono (by decide)) T.g__law_pick T.k__law_pick T.b__law_pick passN (da_cons (de_var 0) (da_cons (de_var 2) da_nil))) da_nil))) da_nil)))), ⟨[6], sog_name 6, by decide⟩⟩ (di_range1 T.m_range (da_cons (de_call (ok__law_take T) (hr.mono (by decide)) T.g__law_take T.k__law_take T.b__law_take pass_fn (da_cons (de_var 0) (da_cons de_int da_nil))) da_nil)) sc__law_made_right.nd)
  (dss_cons (ds_setLc 4 (own := [("_law_value", 7)]) (g := gName 7) ⟨blkOk_by (own := [("_law_value", 7)]) (N := ["_law_bag_here", "_law_letters", "_law_odd", "_law_values", "_law_wrong", "_law_due", "_law_k", "_law_value"]) (sc := defScope s__law_made_right) (by decide +kernel), fun _ _ _ _ _ => pg_name (i := 7) sc__law_made_right.nd rfl (by first | exact Or.inl rfl | exact Or.inr rfl), fun _ _ _ _ _ => (by exact (dts_one (dt_cmp (or_notin (K := K) hr.units5) (v_notin K) (de_var 7) (de_var 1) rfl))), fun _ _ _ _ _ => (by exact (de_var 7)), ⟨[7], sog_name 7, by decide⟩⟩ (di_list (K := K) (de_var 3)) sc__law_made_right.nd)
  (dss_cons (ds_set 5 sc__law_made_right.nd (de_if (dt_cmp (or_ne (K := K) hr.units) (v_ne K) (de_var 4) (de_lst da_nil) rfl) (de_tup (da_cons de_str (da_cons (de_ix (K := K) (de_var 4) de_int) da_nil))) (de_lst (da_cons (de_join (K := K) de_str (de_var 3)) da_nil))))
  (dss_one (ds_ret (de_cmp (or_eq (K := K) hr.units) (v_eq K) (de_callB (v_repr K) (cr_repr hG hr.units) T.m_repr (by decide +kernel) (da_cons (de_call (ok__law_made T) (hr.mono (by decide)) T.g__law_made T.k__law_made T.b__law_made pass_fn (da_cons (de_var 3) da_nil)) da_nil)) (de_callB (v_repr K) (cr_repr hG hr.units) T.m_repr (by decide +kernel) (da_cons (de_var 5) da_nil)) rfl))))))), fun ds S hl => Or.inr rfl⟩, ?_⟩
  intro L b ls h1 h2 h3
  have e := take_ok A L b (n := 4) (by omega) (by omega)
  obtain ⟨q1, q2⟩ := takeB_range b (n := 4) (by omega)
  simp
  generalize hL : lcomp _ _ _ _ (callF 2 (m__law_pick A) _) _ _ = RR
  obtain ⟨vs, b', rfl, hr, hl⟩ : ∃ res b', RR = .ok (.lst res) (bg L b') ∧ (∀ y ∈ res, Val ls y) ∧ res.length = (rngF 0 (takeB b 4).1).length := by
    subst hL
    refine lcomp_bag _ (rngF 0 (takeB b 4).1) (takeB b 4).2 ?_ ?_ ?_
    · have c : -100000 < (takeB b 4).1 ∧ (takeB b 4).1 < 100000 := by omega
      simp [e, c]
    · rw [rngF_len]; omega
    · intro d hd b
      obtain ⟨o, b1, e1, ho⟩ := pick_lst A L b (l := oddL) (by simp [oddL]) (by simp [oddL])
      obtain ⟨x, b2, e2, hx⟩ := pick_lst A L b1 (l := ls.map .str ++ [o]) (by simp) (by simp; omega)
      unfold oddL at e1
      refine ⟨_, x, b2, rfl, rfl, ?_, ?_⟩
      · simp [e1, e2, show ls.length + 1 ≤ 100000 by omega]
      · rcases List.mem_append.mp hx with h | h
        · obtain ⟨w, hw, rfl⟩ := List.mem_map.mp h
          exact .inl ⟨w, hw, rfl⟩
        · rw [List.mem_singleton.mp h]
          exact .inr (odd_all o ho)
  rw [rngF_len] at hl
  simp
  rw [lcomp_filter (S' := bg L b') vs (fun y => decide (isNmD y = some false)) id]
  rotate_left
  · simp
  · omega
  · intro d hd
    obtain ⟨bb, e1, e2⟩ := val_in h3 (hr d hd) (bg L b')
    refine ⟨_, rfl, ?_, fun _ => by simp⟩
    cases bb <;> simp [e2, e1]
  have hbf := bad_filter h3 hr
  have hmade := sp__law_made A vs (bg L b') (by omega) (fun d hd => by
    obtain ⟨bb, e1, _⟩ := val_in h3 (hr d hd) (bg L b')
    exact ⟨bb, e1⟩)
  cases hb : badOf vs with
  | none =>
    rw [hb] at hbf hmade
    obtain ⟨ns, rfl, hn⟩ := good_strs h3 hr hb
    have hns : ∀ w ∈ ns, isNm w = true := fun w hw => h3 w (hn w hw)
    have hj : joinOk (Str.ofString "/") ns = true := join_small hns (by simp at hl; omega)
    have hnil : List.filter (fun y => decide (isNmD y = some false)) (List.map D.str ns) = [] := by simpa using hbf
    have hjt : opJoin (bg L b') "/" (.tup (ns.map .str)) = some (.str (Txt.join slash ns)) := by simp [opJoin, hj]
    have hjl : opJoin (bg L b') (Str.ofString "/") (.lst (ns.map .str)) = some (.str (Txt.join slash ns)) := by simp [opJoin, hj]
    have hR : fRepr (bg L b') [.lst [.str (Txt.join slash ns)]] = some (.str (PyData.list [.str (Txt.join slash ns)]).shown) := by
      simp [fRepr, toPy, toPys, show_lst1 (join_tame hns (by simp at hl; omega))]
    have hne : opNe (bg L b') (D.lst []) (D.lst []) = some (.bl false) := by
      simp [opNe]
      decide +kernel
    rw [hjt] at hmade
    simp at hmade
    simp [hnil, hne, hjl, hmade, hR, opEq_str]
    exact ⟨b', rfl⟩
  | some d =>
    rw [hb] at hbf hmade
    dsimp only at hmade
    obtain ⟨hdm, hdn⟩ := bad_mem hb
    have ho : Odd d := by
      rcases hr d hdm with ⟨w, hw, rfl⟩ | o
      · have := h3 w hw
        have hl := nm_len this
        simp [isNmD, this, show w.length ≤ 100000 by omega] at hdn
      · exact o
    obtain ⟨p, hp, hp2, hp3, hsh, hp4⟩ := ho.ex
    clear hp2 hp3 hp4
    obtain ⟨r, hr2⟩ : ∃ r, List.filter (fun y => decide (isNmD y = some false)) vs = d :: r := by
      cases hf : List.filter (fun y => decide (isNmD y = some false)) vs with
      | nil => rw [hf] at hbf; cases hbf
      | cons x r => rw [hf] at hbf; simp at hbf; exact ⟨r, by rw [hbf]⟩
    have hwr : ∀ y ∈ d :: r, ∃ p, toPy y = some p ∧ SeqAt.shaped p = true ∧ p.depth ≤ 50 := fun y hy => by
      rw [← hr2] at hy
      obtain ⟨h1, h2⟩ := List.mem_filter.mp hy
      rcases hr y h1 with ⟨w, hw, rfl⟩ | o
      · have h4 : SeqAt.shaped (.str w) = true := by simp [SeqAt.shaped, PyData.canLay0, nm_ok (h3 w hw), PyData.depth]
        exact ⟨_, rfl, h4, by simp [PyData.depth]⟩
      · obtain ⟨p, a, b, _, _, c⟩ := o.ex
        exact ⟨p, a, b, c⟩
    have hne : opNe (bg L b') (.lst (d :: r)) (.lst []) = some (.bl true) := by
      obtain ⟨ps, h1, h2⟩ := pys_of (l := d :: r) (fun y hy => by obtain ⟨p, a, b, _⟩ := hwr y hy; exact ⟨p, a, b⟩) (by rw [← hr2]; exact Nat.le_trans (List.length_filter_le _ _) (by omega)) (fun y hy p e => by obtain ⟨q, a, _, c⟩ := hwr y hy; rw [e] at a; cases a; exact c)
      cases ps with
      | nil =>
        have hl := pys_len h1
        simp at hl
      | cons x xs =>
        have hz : SeqAt.shaped (.list []) = true := by decide +kernel
        have t1 : toPy (.lst (d :: r)) = some (.list (x :: xs)) := by show (toPys (d :: r)).map PyData.list = _; rw [h1]; rfl
        have t2 : toPy (.lst []) = some (.list []) := rfl
        simp [opNe, eqD, scD, t1, t2, h2, hz, PyData.eqv, PyData.eqvAll]
    have hR : fRepr (bg L b') [.tup [.str (Str.ofString "BadName"), d]] = some (.str (PyData.tuple [.str "BadName", p]).shown) := by
      simp [fRepr, toPy, toPys, hp, hsh]
    simp [hr2, hne, opIx, atI, ixN, hmade, hR, opEq_str]
    exact ⟨b', rfl⟩
noncomputable def m__law_made_right (A : Ad) : List D → Sto → Res D := Classical.choose (ex__law_made_right A)
theorem ok__law_made_right {P : Program} {w : World} {K : PySem.W.Frag} {mg : Str → Option Value} {base : Heap} {A : Ad} (T : Txt P w K mg base A) : FnG P w K mg base (L2.CX P w) 5 A._law_made_right (spF 2 (m__law_made_right A)) := (Classical.choose_spec (ex__law_made_right A)).1 T
theorem sp__law_made_right (A : Ad) : ∀ (L : Pl) (b : Bag) (ls : List Str), ls ≠ [] → ls.length < 100 → (∀ w ∈ ls, isNm w = true) → ∃ b' : Bag, (m__law_made_right A) [.hot L.i, .lst (ls.map .str)] (bg L b) = .ok (.bl true) (bg L b') := (Classical.choose_spec (ex__law_made_right A)).2
end K2
set_option Elab.async false
set_option linter.all false
set_option maxRecDepth 100000
set_option maxHeartbeats 4000000
set_option autoImplicit false
namespace K2
open PySem PySem.Spec PyProof.Rows L2 DL
theorem ex__law_bag (A : Ad) : ∃ m : List D → Sto → Res D, (∀ {P : Program} {w : World} {K : PySem.W.Frag} {mg : Str → Option Value} {base : Heap}, Txt P w K mg base A → FnOk P w K mg base (L2.CX P w) 1 A._law_bag A.fd__law_bag ["_law_script", "_law_at"] (spF 2 m)) ∧
  ∀ (ns : List Int) (at' : Int) (S : Sto), 0 ≤ at' → at' < 100 → ∃ b : Bag, m [.scr ns, .int at'] S = .ok (.hot S.length) (S ++ [bagO b]) := by
  refine ⟨runF ["_law_script", "_law_at", "_law_cell", "_law_digits"] _, fun {P w K mg base} T => fnd (k := 0) _ T.F__law_bag sc__law_bag fun cdv A' outer s H E hr => ⟨_, _, (dss_cons (ds_set 2 sc__law_bag.nd (de_if (dt_cmp (op_lt) (v_lt) (de_var 1) (de_callB (v_len K) cr_lenA T.m_len boot_len (da_cons (de_var 0) da_nil)) rfl) (de_ix (K := K) (de_var 0) (de_var 1)) de_int))
  (dss_cons (ds_set 3 sc__law_bag.nd (de_if (dt_cmp (op_ge) (v_ge) (de_callB v_abs call_abs T.m_abs (by decide +kernel) (da_cons (de_var 2) da_nil)) (de_op op_pow v_pow de_int de_int) rfl) (de_callB v_abs call_abs T.m_abs (by decide +kernel) (da_cons (de_var 2) da_nil)) de_int))
  (dss_one (ds_ret (de_lstH (da_cons (de_var 3) (da_cons (de_op op_mod v_mod (de_op or_add v_add (de_op or_add v_add (de_op op_mul v_mul (de_op op_mod v_mod (de_callTy v_int call_int1 T.m_int (by decide +kernel) (da_cons (de_var 2) da_nil)) de_int) de_int) (de_op op_mul v_mul de_int (de_var 1))) de_int) de_int) (da_cons de_int da_nil)))))))), fun ds S hl => Or.inr rfl⟩, ?_⟩
  intro ns k S h1 h2
  have hm : ∀ x : Int, (-18446744073709551616 < x % 2147483629 ∧ x % 2147483629 < 18446744073709551616) := fun x => by
    have := Int.emod_nonneg x (show (2147483629 : Int) ≠ 0 by decide)
    have := Int.emod_lt_of_pos x (show (0 : Int) < 2147483629 by decide)
    omega
  simp
  obtain ⟨c, hc⟩ : ∃ c : Int, (if k < (ns.length : Int) then lift (opIx S (D.scr ns) (D.int k)) S else Res.ok (D.int 0) S) = Res.ok (D.int c) S := by
    by_cases hk : k < (ns.length : Int)
    · obtain ⟨c, hc, _⟩ := atI_mem h1 hk
      exact ⟨c, by simp [hk, opIx, hc]⟩
    · exact ⟨0, by simp [hk]⟩
  rw [hc]
  have h10 : Int.natAbs 10 < 18446744073709551616 := by decide
  by_cases hb : (1000000000000000000 : Int) ≤ (if c < 0 then -c else c)
  · simp [fAbs, opPow, fInt1, opMod, opMul, h10, hb, hm]
    exact ⟨⟨_, _, 0⟩, rfl⟩
  · simp [fAbs, opPow, fInt1, opMod, opMul, h10, hb, hm]
    exact ⟨⟨_, _, 0⟩, rfl⟩
noncomputable def m__law_bag (A : Ad) : List D → Sto → Res D := Classical.choose (ex__law_bag A)
theorem ok__law_bag {P : Program} {w : World} {K : PySem.W.Frag} {mg : Str → Option Value} {base : Heap} {A : Ad} (T : Txt P w K mg base A) : FnOk P w K mg base (L2.CX P w) 1 A._law_bag A.fd__law_bag ["_law_script", "_law_at"] (spF 2 (m__law_bag A)) := (Classical.choose_spec (ex__law_bag A)).1 T
theorem sp__law_bag (A : Ad) : ∀ (ns : List Int) (at' : Int) (S : Sto), 0 ≤ at' → at' < 100 → ∃ b : Bag, (m__law_bag A) [.scr ns, .int at'] S = .ok (.hot S.length) (S ++ [bagO b]) := (Classical.choose_spec (ex__law_bag A)).2
/-! ### lists of paths -/
def IsP (p : Str) : Prop := ∃ ns : List Str, (∀ w ∈ ns, isNm w = true) ∧ ns.length ≤ 6 ∧ p = Txt.join slash ns
theorem IsP.len {p : Str} (h : IsP p) : p.length ≤ 54 := by
  obtain ⟨ns, h1, h2, rfl⟩ := h
  have := join_len h1
  omega
theorem IsP.full {p : Str} (h : IsP p) : full p = namesL p := by
  obtain ⟨ns, h1, h2, rfl⟩ := h
  rw [full_join h1, names_join h1]
theorem IsP.ok {p : Str} (h : IsP p) : PyData.strOk p = true := by
  obtain ⟨ns, h1, h2, rfl⟩ := h
  refine str_ok fun c hc => ?_
  have hc' : c ∈ TL.tl (Txt.join slash ns) := hc
  rw [join_tl] at hc'
  rcases joinL_mem hc' with q | ⟨x, hx, q⟩
  · have : ∀ c ∈ TL.tl slash, c < 1114112 := by decide +kernel
    exact this c q
  · obtain ⟨w, hw, rfl⟩ := List.mem_map.mp hx
    have := nm_sign (h1 w hw) q
    omega
theorem eq_strs {l : List Str} (h : ∀ s ∈ l, PyData.strOk s = true) : eqD (.lst (l.map .str)) (.lst (l.map .str)) = some true := by
  have hs := shaped_strs h
  have e : PyData.eqv (.list (l.map .str)) (.list (l.map .str)) = true := SeqAt.eqv_refl _ (by simp [PyData.canLay0, lay_strs h])
  simp [eqD, scD, toPy, toPys_map, hs, e]
theorem bef_key (p q : Str) (hp : IsP p) (hq : IsP q) :
    (if (full p).length = (full q).length then PySem.W.dataLt (.list ((full p).map .str)) (.list ((full q).map .str)) else decide ((full p).length < (full q).length)) = PySem.W.dataLt (keyP p) (keyP q) := by
  rw [hp.full, hq.full]
  unfold keyP
  rw [PySem.W.dataLt_pair (by simp [PySem.W.alike]) (by simp [PySem.W.alike, alike_strs]), PySem.W.dataLt_int]
  have e1 : PyData.eqv (.int (namesL p).length) (.int (namesL q).length) = decide ((namesL p).length = (namesL q).length) := by
    rw [PyData.eqv]
    by_cases h : (namesL p).length = (namesL q).length
    · simp [h]
    · have h' : ((namesL p).length : Int) ≠ (namesL q).length := fun z => h (Int.ofNat_inj.mp z)
      simp [h, h']
  rw [e1]
  by_cases h : (namesL p).length = (namesL q).length
  · rw [if_pos h, if_pos (decide_eq_true h), PySem.W.dataLt_list, PySem.W.dataLt_tuple]
    split
    · rename_i e
      have e2 := (PySem.W.toks_eqv (.tuple ((namesL p).map .str)) (.tuple ((namesL q).map .str)) (by simp [PySem.W.alike, alike_strs])).1 e
      have e3 : PySem.W.dataLt (.tuple ((namesL p).map .str)) (.tuple ((namesL q).map .str)) = false := by
        unfold PySem.W.dataLt
        rw [e2]
        exact PyProof.Rows.lex_irrefl _
      rw [PySem.W.dataLt_tuple] at e3
      exact e3
    · rfl
  · rw [if_neg h, if_neg (by simpa using h)]
    simp
theorem leP_total : PySem.W.TotalLe leP := PySem.W.sortLe_total (PyProof.Rows.listOrd PyProof.Rows.itemOrd) false fun b => PySem.W.keyToks (keyP b)
theorem leP_lt (a b : Str) : leP a b = !PySem.W.dataLt (keyP b) (keyP a) := rfl
theorem sortP_sorted (l : List Str) : (sortP l).Pairwise fun a b => PySem.W.dataLt (keyP b) (keyP a) = false := by
  have := List.pairwise_mergeSort (le := leP) leP_total.trans (fun a b => by simpa using leP_total.total a b) l
  refine List.Pairwise.imp (fun {a b} h => ?_) this
  rw [leP_lt] at h
  simpa using h
def leS (a b : D) : Bool := PySem.W.dataLe false enc a b
theorem leS_str (a b : Str) : leS (.str a) (.str b) = !decide (b.cps.toList < a.cps.toList) := by
  show (!PySem.W.dataLt (.str b) (.str a)) = _
  rw [PySem.W.dataLt_str]
theorem sort_perm {l m : List Str} (h : l.Perm m) : sortD (l.map .str) = sortD (m.map .str) := by
  have tot : PySem.W.TotalLe leS := PySem.W.sortLe_total (PyProof.Rows.listOrd PyProof.Rows.itemOrd) false fun b => PySem.W.keyToks (enc b)
  have p1 := List.pairwise_mergeSort (le := leS) tot.trans (fun a b => by simpa using tot.total a b) (l.map .str)
  have p2 := List.pairwise_mergeSort (le := leS) tot.trans (fun a b => by simpa using tot.total a b) (m.map .str)
  have q1 := List.mergeSort_perm (l.map D.str) leS
  have q2 := List.mergeSort_perm (m.map D.str) leS
  refine List.Perm.eq_of_pairwise (le := fun a b => leS a b = true) (fun a b ha hb h1 h2 => ?_) p1 p2 ((q1.trans (h.map D.str)).trans q2.symm)
  obtain ⟨x, _, rfl⟩ := List.mem_map.mp (q1.mem_iff.mp ha)
  obtain ⟨y, _, rfl⟩ := List.mem_map.mp (q2.mem_iff.mp hb)
  rw [leS_str] at h1 h2
  simp at h1 h2
  have e := List.le_antisymm h1 h2
  obtain ⟨⟨xs⟩⟩ := x
  obtain ⟨⟨ys⟩⟩ := y
  simp at e
  rw [e]
theorem enc_strs {l : List Str} (h : l.length ≤ 100000) : encOk (l.map .str) := by
  refine ⟨fun d hd => ?_, fun d hd e he => ?_, .inr fun d hd => ?_, fun d hd => ?_, by simpa using h⟩
  · obtain ⟨x, _, rfl⟩ := List.mem_map.mp hd; rfl
  · obtain ⟨x, hx, rfl⟩ := List.mem_map.mp hd
    obtain ⟨y, hy, rfl⟩ := List.mem_map.mp he
    obtain ⟨x, _, rfl⟩ := List.mem_map.mp hx
    obtain ⟨y, _, rfl⟩ := List.mem_map.mp hy
    rfl
  · obtain ⟨x, hx, rfl⟩ := List.mem_map.mp hd
    obtain ⟨x, _, rfl⟩ := List.mem_map.mp hx
    exact ⟨nofun, fun _ => nofun⟩
  · obtain ⟨x, _, rfl⟩ := List.mem_map.mp hd
    simp [enc, toPy, PyData.depth]
theorem paths_from {res : List D} (h : ∀ y ∈ res, ∃ p, IsP p ∧ y = .str p) : ∃ ps : List Str, res = ps.map .str ∧ ∀ p ∈ ps, IsP p := by
  induction res with
  | nil => exact ⟨[], rfl, fun _ h => nomatch h⟩
  | cons y r ih =>
    obtain ⟨p, hp, rfl⟩ := h _ List.mem_cons_self
    obtain ⟨ps, rfl, hs⟩ := ih fun z hz => h z (List.mem_cons_of_mem _ hz)
    exact ⟨p :: ps, rfl, fun u hu => by
      rcases List.mem_cons.mp hu with q | q
      · rw [q]; exact hp
      · exact hs u q⟩
end K2
set_option Elab.async false
set_option linter.all false
set_option maxRecDepth 100000
set_option maxHeartbeats 4000000
set_option autoImplicit false
namespace K2
open PySem PySem.Spec PyProof.Rows L2 DL
theorem vL_snoc (S : Sto) (l : List D) : vL (S ++ [.lst l]) (.hot S.length) = some l := by
  simp [vL]
theorem hotL_snoc (S : Sto) (l : List D) : hotL (S ++ [.lst l]) S.length = some l := by
  simp [hotL]
theorem set_snoc (S : Sto) (x y : HotO) : (S ++ [x]).set S.length y = S ++ [y] := by
  simp
theorem before_loop {A : Ad} {S : Sto} {told : List Str} {n : Nat} (h1 : ∀ p ∈ told, IsP p) (hs : told.Pairwise fun a b => PySem.W.dataLt (keyP b) (keyP a) = false) (hv : vL S (.hot n) = some (told.map .str)) (e0 e1 e2 e3 : Option D) :
    ∀ (ks : List Nat) (x : Option D), (∀ k ∈ ks, k + 1 < told.length) → ∃ y, forF (gfName 5) (fIf (tst (callF 2 (m__law_before A) (consA (DL.bin opIx (fVar 4) (DL.bin opAdd (fVar 5) (fC (D.int 1)))) (consA (DL.bin opIx (fVar 4) (fVar 5)) fNilA)))) (fRet (fC (D.bl false))) fNext)
      (ks.map fun k => .int (0 + (k : Nat))) [e0, e1, e2, e3, some (.hot n), x] S = .nx [e0, e1, e2, e3, some (.hot n), y] S
  | [], x, _ => ⟨x, rfl⟩
  | k :: ks, x, h => by
    have hk := h k List.mem_cons_self
    obtain ⟨y, hy⟩ := before_loop (A := A) h1 hs hv e0 e1 e2 e3 ks (some (.int (0 + (k : Nat)))) fun j hj => h j (List.mem_cons_of_mem _ hj)
    refine ⟨y, ?_⟩
    obtain ⟨a, ha⟩ : ∃ a, told[k]? = some a := ⟨_, List.getElem?_eq_getElem (by omega)⟩
    obtain ⟨b, hb⟩ : ∃ b, told[k + 1]? = some b := ⟨_, List.getElem?_eq_getElem hk⟩
    have i1 : opIx S (.hot n) (.int (k : Nat)) = some (.str a) := by
      have : k < told.length := by omega
      simp [opIx, hv, atI, ixN, this]
      exact Option.some.inj ((List.getElem?_eq_getElem this).symm.trans ha)
    have i2 : opIx S (.hot n) (.int ((k : Nat) + 1)) = some (.str b) := by
      have c1 : (0 : Int) ≤ (k : Nat) + 1 := by omega
      have c2 : ((k : Nat) + 1 : Int) < (told.length : Int) := by omega
      have c3 : ((k : Nat) + 1 : Int).toNat = k + 1 := by omega
      simp [opIx, hv, atI, ixN, c1, c2, c3, hb]
    have pa := h1 a (List.mem_of_getElem? ha)
    have pb := h1 b (List.mem_of_getElem? hb)
    have hbe := sp__law_before A b a S (by have := pb.len; omega) (by have := pa.len; omega)
    rw [bef_key b a pb pa] at hbe
    have hlt : PySem.W.dataLt (keyP b) (keyP a) = false := by
      have := List.pairwise_iff_getElem.mp hs k (k + 1) (by omega) hk (by omega)
      rw [List.getElem?_eq_getElem (by omega)] at ha hb
      cases ha
      cases hb
      exact this
    rw [hlt] at hbe
    rw [List.map_cons]
    unfold forF
    simp [i1, i2, hbe] at hy ⊢
    exact hy
theorem ex__law_order_right (A : Ad) : ∃ m : List D → Sto → Res D, (∀ {P : Program} {w : World} {K : PySem.W.Frag} {mg : Str → Option Value} {base : Heap}, Txt P w K mg base A → FnOk P w K mg base (L2.CX P w) 6 A._law_order_right A.fd__law_order_right ["_law_bag_here", "_law_letters"] (spF 2 m)) ∧
  ∀ (L : Pl) (b : Bag) (ls : List Str), ls ≠ [] → ls.length < 100 → (∀ w ∈ ls, isNm w = true) → ∃ (b' : Bag) (G : Sto), m [.hot L.i, .lst (ls.map .str)] (bg L b) = .ok (.bl true) (bg L b' ++ G) := by
  refine ⟨runF ["_law_bag_here", "_law_letters", "_law_some", "_law_kept", "_law_told", "_law_k"] _, fun {P w K mg base} T => fnd (k := 5) _ T.F__law_order_right sc__law_order_right fun cdv A' outer s H E hr => ⟨_, _, (dss_cons (ds_setLc 2 (own := [("_law_k", 5)]) (g := gName 5) ⟨blkOk_by (own := [("_law_k", 5)]) (N := ["_law_bag_here", "_law_letters", "_law_some", "_law_kept", "_law_told", "_law_k"]) (sc := defScope s__law_order_right) (by decide +kernel), fun _ _ _ _ _ => pg_name (i := 5) sc__law_order_right.nd rfl (by first | exact Or.inl rfl | exact Or.inr rfl), fun _ _ _ _ _ => (by exact dts_nil), fun _ _ _ _ _ => (by exact (de_call (ok__law_path T) (hr.mono (by decide)) T.g__law_path T.k__law_path T.b__law_path passN (da_cons (de_var 0) (da_cons (de_var 1) (da_cons de_int da_nil))))), ⟨[5], sog_name 5, by decide⟩⟩ (di_range1 T.m_range (da_cons (de_call (ok__law_take T) (hr.mono (by decide)) T.g__law_take T.k__law_take T.b__law_take pass_fn (da_cons (de_var 0) (da_cons de_int da_nil))) da_nil)) sc__law_order_right.nd)
  (dss_cons (ds_par 3 4 sc__law_order_right.nd (da_cons (de_callTy (v_list K) cr_listK T.m_list (by decide +kernel) (da_cons (de_var 2) da_nil)) (da_cons (de_call (ok_in_order T) (hr.mono (by decide)) T.g_in_order T.k_in_order T.b_in_order pass_fn (da_cons (de_var 2) da_nil)) da_nil)))
  (dss_cons (ds_if (dw_pt (dw_or (dt_cmp (or_ne (K := K) hr.units) (v_ne K) (de_var 2) (de_var 3) rfl) (dw_or (dt_cmp (or_ne (K := K) hr.units) (v_ne K) (de_callB (v_len K) cr_lenA T.m_len boot_len (da_cons (de_var 4) da_nil)) (de_callB (v_len K) cr_lenA T.m_len boot_len (da_cons (de_var 2) da_nil)) rfl) (dw_or1 (dt_cmp (or_ne (K := K) hr.units) (v_ne K) (de_callB (v_sortedX K) (cr_sortedX (K := K) hr.units) T.m_sorted (by decide +kernel) (da_cons (de_var 4) da_nil)) (de_callB (v_sortedX K) (cr_sortedX (K := K) hr.units) T.m_sorted (by decide +kernel) (da_cons (de_var 2) da_nil)) rfl))))) (dss_one (ds_ret de_bl)) dss_nil)
  (dss_cons (ds_for (g := gName 5) own_fn (di_range1 T.m_range (da_cons (de_op op_sub v_sub (de_callB (v_len K) cr_lenA T.m_len boot_len (da_cons (de_var 4) da_nil)) de_int) da_nil)) (pg_name (i := 5) sc__law_order_right.nd rfl (by first | exact Or.inl rfl | exact Or.inr rfl)) (sog_name 5) (dss_one (ds_if (dt_val (de_call (ok__law_before T) (hr.mono (by decide)) T.g__law_before T.k__law_before T.b__law_before pass_fn (da_cons (de_ix (K := K) (de_var 4) (de_op or_add v_add (de_var 5) de_int)) (da_cons (de_ix (K := K) (de_var 4) (de_var 5)) da_nil)))) (dss_one (ds_ret de_bl)) dss_nil)))
  (dss_cons (ds_expr (de_append (K := K) (de_var 4) de_str))
  (dss_one (ds_ret (de_cmp (or_eq (K := K) hr.units) (v_eq K) (de_callKw (ok_in_order T) (hr.mono (by decide)) T.g_in_order T.k_in_order T.kb_in_order pass_fn (dk_cons (de_var 2) dk_nil)) (de_slice (K := K) (de_var 4) do_none (do_some (de_neg de_int))) rfl)))))))), fun ds S hl => Or.inr rfl⟩, ?_⟩
  intro L b ls h1 h2 h3
  have e := take_ok A L b (n := 10) (by omega) (by omega)
  obtain ⟨q1, q2⟩ := takeB_range b (n := 10) (by omega)
  simp only [runF]
  simp
  generalize hL : lcomp _ _ _ _ (callF 3 (m__law_path A) _) _ _ = RR
  obtain ⟨vs, b', rfl, hr, hl⟩ : ∃ res b', RR = .ok (.lst res) (bg L b') ∧ (∀ y ∈ res, ∃ p, IsP p ∧ y = .str p) ∧ res.length = (rngF 0 (takeB b 10).1).length := by
    subst hL
    refine lcomp_bag _ (rngF 0 (takeB b 10).1) (takeB b 10).2 ?_ ?_ ?_
    · have c : -100000 < (takeB b 10).1 ∧ (takeB b 10).1 < 100000 := by omega
      simp [e, c]
    · rw [rngF_len]; omega
    · intro d hd b
      obtain ⟨ns, b1, e1, hn, hnl⟩ := sp__law_path A L b ls 6 h1 h2 (by omega) (by omega) h3
      exact ⟨_, _, b1, rfl, rfl, by simp [e1], Txt.join slash ns, ⟨ns, fun w hw => h3 w (hn w hw), by omega, rfl⟩, rfl⟩
  obtain ⟨ps, rfl, hp⟩ := paths_from hr
  rw [rngF_len, List.length_map] at hl
  clear hr hL
  have hps : ps.length ≤ 1000 := by omega
  have hin := fun S => sp_in_order A ps S hps fun p h => by have := (hp p h).len; omega
  have hpm : (sortP ps).Perm ps := List.mergeSort_perm ps leP
  have htl : (sortP ps).length = ps.length := hpm.length_eq
  have htp : ∀ p ∈ sortP ps, IsP p := fun p h => hp p (hpm.mem_iff.mp h)
  have hso := sortP_sorted ps
  generalize sortP ps = told at hin hpm htl htp hso
  have hd := sort_perm hpm
  have c1 := enc_strs (l := told) (by omega)
  have c2 := enc_strs (l := ps) (by omega)
  have hS1 := vL_snoc (bg L b') (told.map .str)
  have hH1 := hotL_snoc (bg L b') (told.map .str)
  have hT1 := fun x y => set_snoc (bg L b') x y
  rw [bg_len] at hS1 hH1 hT1
  have ne1 : ∀ S, opNe S (.lst (ps.map .str)) (.lst (ps.map .str)) = some (.bl false) := fun S => by
    simp [opNe, eq_strs fun s hs => (hp s hs).ok]
  have ne2 : ∀ (S : Sto) (k : Nat), opNe S (.int k) (.int k) = some (.bl false) := fun S k => by simp [opNe]
  have ne3 : ∀ S, opNe S (.lst (sortD (ps.map .str))) (.lst (sortD (ps.map .str))) = some (.bl false) := fun S => by
    obtain ⟨qs, hq, hqs⟩ := strs_from (ls := ps) (res := sortD (ps.map .str)) fun y hy => by
      obtain ⟨w, hw, rfl⟩ := List.mem_map.mp ((List.mergeSort_perm _ _).mem_iff.mp hy)
      exact ⟨w, hw, rfl⟩
    rw [hq]
    simp [opNe, eq_strs fun s hs => (hp s (hqs s hs)).ok]
  simp [fList, hin, ne1, hS1, htl, ne2, fSorted, c1, c2, hd, ne3]
  have c : -100000 < (ps.length : Int) - 1 ∧ (ps.length : Int) - 1 < 100000 := by omega
  obtain ⟨y, hy⟩ := before_loop (A := A) htp hso hS1 (some (D.hot L.i)) (some (D.lst (List.map D.str ls))) (some (D.lst (List.map D.str ps))) (some (D.lst (List.map D.str ps))) (List.range ((ps.length : Int) - 1 - 0).toNat) none fun k hk => by
    have := List.mem_range.mp hk
    omega
  rw [if_pos c]
  unfold rngF
  simp only [lift_some, Res.flow_ok, hy]
  have hS2 := vL_snoc (bg L b') (told.map .str ++ [.str (Str.ofString "changed")])
  rw [bg_len] at hS2
  have hS3 := fun l => vL_snoc (bg L b' ++ [HotO.lst (told.map .str ++ [.str (Str.ofString "changed")])]) l
  have hS4 : ∀ l, vL (bg L b' ++ [HotO.lst (told.map .str ++ [.str (Str.ofString "changed")]), HotO.lst l]) (.hot L.S.length) = some (told.map .str ++ [.str (Str.ofString "changed")]) := fun l => by
    unfold vL
    dsimp only
    rw [List.getElem?_append_right (by rw [bg_len]; exact Nat.le_refl _)]
    simp
  have hcut : cutL (told.map D.str ++ [.str (Str.ofString "changed")]) none (some (-1)) = told.map .str := by
    unfold cutL HT.sIx
    simp
    rw [show (-1 + ((told.length : Int) + 1)).toNat = (told.map D.str).length by simp; omega]
    exact List.take_left
  have hlen : told.length < 100000 := by omega
  have hS5 : ∀ l, vL (bg L b' ++ [HotO.lst (told.map .str ++ [.str (Str.ofString "changed")]), HotO.lst l]) (.hot (L.S.length + 1)) = some l := fun l => by
    unfold vL
    dsimp only
    rw [List.getElem?_append_right (by rw [bg_len]; omega)]
    simp
  have hE : ∀ S, vL S (.hot (L.S.length + 1)) = some (told.map .str) → opEq S (.hot (L.S.length + 1)) (.lst (told.map .str)) = some (.bl true) := fun S h => by
    have : cl S (.hot (L.S.length + 1)) = .lst (told.map .str) := by unfold cl; rw [h]
    simp [opEq, this, eq_strs fun s hs => (htp s hs).ok]
  simp [hH1, hT1, hin, hlen, opCut, hS4, hcut, hE _ (hS5 _)]
  exact ⟨b', _, rfl⟩
noncomputable def m__law_order_right (A : Ad) : List D → Sto → Res D := Classical.choose (ex__law_order_right A)
theorem ok__law_order_right {P : Program} {w : World} {K : PySem.W.Frag} {mg : Str → Option Value} {base : Heap} {A : Ad} (T : Txt P w K mg base A) : FnOk P w K mg base (L2.CX P w) 6 A._law_order_right A.fd__law_order_right ["_law_bag_here", "_law_letters"] (spF 2 (m__law_order_right A)) := (Classical.choose_spec (ex__law_order_right A)).1 T
theorem sp__law_order_right (A : Ad) : ∀ (L : Pl) (b : Bag) (ls : List Str), ls ≠ [] → ls.length < 100 → (∀ w ∈ ls, isNm w = true) → ∃ (b' : Bag) (G : Sto), (m__law_order_right A) [.hot L.i, .lst (ls.map .str)] (bg L b) = .ok (.bl true) (bg L b' ++ G) := (Classical.choose_spec (ex__law_order_right A)).2
theorem bg_grow (L : Pl) (b : Bag) (G : Sto) : ∃ L' : Pl, L'.i = L.i ∧ bg L b ++ G = bg L' b := by
  refine ⟨⟨L.S ++ G, L.i, by rw [List.length_append]; have := L.h; omega⟩, rfl, ?_⟩
  unfold bg
  rw [List.set_append_left _ _ L.h]
theorem bg_new (S : Sto) (b : Bag) : ∃ L : Pl, L.i = S.length ∧ S ++ [bagO b] = bg L b := by
  refine ⟨⟨S ++ [bagO b], S.length, by simp⟩, rfl, ?_⟩
  unfold bg
  simp
theorem ex_law (A : Ad) : ∃ m : List D → Sto → Res D, (∀ {P : Program} {w : World} {K : PySem.W.Frag} {mg : Str → Option Value} {base : Heap}, Txt P w K mg base A → FnG P w K mg base (L2.CX P w) 7 A.law (spF 1 m)) ∧
  ∀ (ns : List Int), ∃ S', m [.scr ns] [] = .ok (.bl true) S' := by
  refine ⟨runF ["_law_script", "_law_at", "_law_bag_here", "_law_letters", "_law_turn"] _, fun {P w K mg base} T => fnd_g (k := 6) _ T.F_law sc_law T.b_law fun cdv A' outer s H E hr hG => ⟨_, _, (dss_cons (ds_for (g := gName 1) own_fn (di_range1 T.m_range (da_cons (de_callB v_max (call_max2 rfl) T.m_max (by decide +kernel) (da_cons de_int (da_cons (de_callB v_min (call_min2 rfl) T.m_min (by decide +kernel) (da_cons de_int (da_cons (de_callB (v_len K) cr_lenA T.m_len boot_len (da_cons (de_var 0) da_nil)) da_nil))) da_nil))) da_nil)) (pg_name (i := 1) sc_law.nd rfl (by first | exact Or.inl rfl | exact Or.inr rfl)) (sog_name 1) (dss_cons (ds_set 2 sc_law.nd (de_call (ok__law_bag T) (hr.mono (by decide)) T.g__law_bag T.k__law_bag T.b__law_bag pass_fn (da_cons (de_var 0) (da_cons (de_var 1) da_nil))))
  (dss_cons (ds_set 3 sc_law.nd (de_op or_add v_add (de_call (ok__law_words T) (hr.mono (by decide)) T.g__law_words T.k__law_words T.b__law_words pass_fn (da_cons (de_var 2) (da_cons de_int da_nil))) (de_slice (K := K) (de_lst (da_cons de_str (da_cons de_str da_nil))) do_none (do_some (de_call (ok__law_take T) (hr.mono (by decide)) T.g__law_take T.k__law_take T.b__law_take pass_fn (da_cons (de_var 2) (da_cons de_int da_nil)))))))
  (dss_one (ds_for (g := gName 4) own_fn (di_range1 T.m_range (da_cons de_int da_nil)) (pg_name (i := 4) sc_law.nd rfl (by first | exact Or.inl rfl | exact Or.inr rfl)) (sog_name 4) (dss_cons (ds_if (dw_pt (dw_or (dt_not (dt_val (de_callG (ok__law_made_right T) (hr.mono (by decide)) hG T.g__law_made_right T.k__law_made_right pass_fn (da_cons (de_var 2) (da_cons (de_var 3) da_nil))))) (dw_or1 (dt_not (dt_val (de_callG (ok__law_path_right T) (hr.mono (by decide)) hG T.g__law_path_right T.k__law_path_right pass_fn (da_cons (de_call (ok__law_path T) (hr.mono (by decide)) T.g__law_path T.k__law_path T.b__law_path pass_fn (da_cons (de_var 2) (da_cons (de_var 3) (da_cons de_int da_nil)))) da_nil))))))) (dss_one (ds_ret de_bl)) dss_nil)
  (dss_one (ds_if (dt_not (dt_val (de_call (ok__law_order_right T) (hr.mono (by decide)) T.g__law_order_right T.k__law_order_right T.b__law_order_right pass_fn (da_cons (de_var 2) (da_cons (de_var 3) da_nil))))) (dss_one (ds_ret de_bl)) dss_nil))))))))
  (dss_one (ds_ret de_bl))), fun ds S hl => Or.inr rfl⟩, ?_⟩
  intro ns
  simp only [runF]
  simp
  obtain ⟨n, hn0, hn5, hn⟩ : ∃ n : Int, 2 ≤ n ∧ n ≤ 5 ∧ (((((lift (fMin2 [] [D.int 5, D.int ns.length]) []).bind fun d S1 => Res.ok [d] S1).bind fun ds S2 => Res.ok (D.int 2 :: ds) S2).bind fun ds S1 => lift (fMax2 S1 ds) S1).bind fun d S1 => Res.ok [d] S1) = Res.ok [D.int n] [] := by
    simp [fMin2, fMax2]
    split <;> split <;> omega
  rw [hn]
  have c : -100000 < n ∧ n < 100000 := by omega
  simp only [Res.bind_ok, if_pos c, lift_some, Res.flow_ok]
  have hz : isNm "z" = true := by decide +kernel
  have hzz : isNm "zz" = true := by decide +kernel
  generalize hF : forF (gfName 1) _ _ _ _ = FF
  obtain ⟨ρ', S', rfl, hI⟩ : ∃ ρ' S', FF = .nx ρ' S' ∧ ∃ x1 x2 x3 x4, ρ' = [some (D.scr ns), x1, x2, x3, x4] := by
    subst hF
    refine forF_inv (fun ρ S => ∃ x1 x2 x3 x4, ρ = [some (D.scr ns), x1, x2, x3, x4]) (rngF 0 n) _ _ ⟨_, _, _, _, rfl⟩ ?_
    rintro d hd ρ S ⟨x1, x2, x3, x4, hρ⟩
    subst hρ
    obtain ⟨k, hk, rfl⟩ := List.mem_map.mp hd
    have hk := List.mem_range.mp hk
    obtain ⟨b0, e1⟩ := sp__law_bag A ns (k : Nat) S (by omega) (by omega)
    obtain ⟨L, hL, hS⟩ := bg_new S b0
    rw [hS, ← hL] at e1
    obtain ⟨ws, b1, e2, hw1, hw2⟩ := sp__law_words A L b0 4 (by omega) (by omega)
    have e3 := take_ok A L b1 (n := 3) (by omega) (by omega)
    obtain ⟨q1, q2⟩ := takeB_range b1 (n := 3) (by omega)
    obtain ⟨ls, hls1, hls2, hls3⟩ : ∃ ls : List Str, ws.map D.str ++ cutL [D.str (Str.ofString "z"), D.str (Str.ofString "zz")] none (some (takeB b1 3).1) = ls.map .str ∧ (∀ w ∈ ls, isNm w = true) ∧ ls.length < 100 ∧ ls ≠ [] := by
      refine ⟨ws ++ cutL [Str.ofString "z", Str.ofString "zz"] none (some (takeB b1 3).1), by rw [List.map_append, ← cutL_map]; rfl, fun w hw => ?_, ?_, ?_⟩
      · rcases List.mem_append.mp hw with h | h
        · exact hw2 w h
        · have := cutL_sub h
          simp at this
          rcases this with rfl | rfl
          · exact hz
          · exact hzz
      · have := cutL_len [Str.ofString "z", Str.ofString "zz"] none (some (takeB b1 3).1)
        simp at this ⊢
        omega
      · intro e
        have hw : ws = [] := (List.append_eq_nil_iff.mp e).1
        rw [hw] at hw1
        simp at hw1
    have hcl : ws.length + (cutL [D.str (Str.ofString "z"), D.str (Str.ofString "zz")] none (some (takeB b1 3).1)).length ≤ 100000 := by
      have := cutL_len [D.str (Str.ofString "z"), D.str (Str.ofString "zz")] none (some (takeB b1 3).1)
      simp at this ⊢
      omega
    suffices hh : ∃ ρ2 S2, fFor (itA asR1 (consA (fC (D.int 6)) fNilA)) (gfName 4) (fSeq (fIf (orB (notB (tst (callF 2 (m__law_made_right A) (consA (fVar 2) (consA (fVar 3) fNilA))))) (notB (tst (callF 1 (m__law_path_right A) (consA (callF 3 (m__law_path A) (consA (fVar 2) (consA (fVar 3) (consA (fC (D.int 6)) fNilA)))) fNilA))))) (fRet (fC (D.bl false))) fNext)
          (fIf (notB (tst (callF 2 (m__law_order_right A) (consA (fVar 2) (consA (fVar 3) fNilA))))) (fRet (fC (D.bl false))) fNext)) [some (D.scr ns), some (D.int (k : Nat)), some (D.hot L.i), some (D.lst (ls.map .str)), x4] (bg L (takeB b1 3).2) = .nx ρ2 S2 ∧ ∃ y1 y4, ρ2 = [some (D.scr ns), y1, some (D.hot L.i), some (D.lst (ls.map .str)), y4] by
      obtain ⟨ρ2, S2, e4, y1, y4, rfl⟩ := hh
      refine ⟨_, [some (D.scr ns), y1, some (D.hot L.i), some (D.lst (ls.map .str)), y4], S2, rfl, ?_, _, _, _, _, rfl⟩
      have e5 := e4
      simp only [fSeq, fSet, callF, consA, fVar, getD', DL.bin, fCut, dispL, fC, fNilA, fNoPart, fPart]
      simp [e1, e2, e3, opCut, hcl, hls1]
      simpa using e5
    simp only [fFor, itA, consA, fC, fNilA, Res.bind_ok, asR1, lift_some, Res.flow_ok]
    rw [if_pos (by decide)]
    simp only [lift_some, Res.flow_ok]
    have hmain := forF_inv (fun ρ S => ∃ x1 x4 L' b', ρ = [some (D.scr ns), x1, some (D.hot L.i), some (D.lst (ls.map .str)), x4] ∧ S = bg L' b' ∧ L'.i = L.i) (rngF 0 6) [some (D.scr ns), some (D.int (k : Nat)), some (D.hot L.i), some (D.lst (ls.map .str)), x4] (bg L (takeB b1 3).2) ⟨_, _, L, _, rfl, rfl, rfl⟩ (gF := gfName 4)
      (Φ := fSeq (fIf (orB (notB (tst (callF 2 (m__law_made_right A) (consA (fVar 2) (consA (fVar 3) fNilA))))) (notB (tst (callF 1 (m__law_path_right A) (consA (callF 3 (m__law_path A) (consA (fVar 2) (consA (fVar 3) (consA (fC (D.int 6)) fNilA)))) fNilA))))) (fRet (fC (D.bl false))) fNext)
          (fIf (notB (tst (callF 2 (m__law_order_right A) (consA (fVar 2) (consA (fVar 3) fNilA))))) (fRet (fC (D.bl false))) fNext)) (fun d hd ρ S ⟨z1, z4, L', b', h1, h2, h3⟩ => by
      subst h1 h2
      obtain ⟨c1, d1⟩ := sp__law_made_right A L' b' ls hls3.2 hls3.1 hls2
      obtain ⟨ps, c2, d2, hp1, hp2⟩ := sp__law_path A L' c1 ls 6 hls3.2 hls3.1 (by omega) (by omega) hls2
      have d3 := sp__law_path_right A ps (bg L' c2) (fun w hw => hls2 w (hp1 w hw)) (by omega)
      obtain ⟨c4, G, d4⟩ := sp__law_order_right A L' c2 ls hls3.2 hls3.1 hls2
      obtain ⟨L4, hL4, hS4⟩ := bg_grow L' c4 G
      rw [hS4] at d4
      rw [h3] at d1 d2 d4
      exact ⟨_, [some (D.scr ns), z1, some (D.hot L.i), some (D.lst (ls.map .str)), some d], bg L4 c4, rfl, by simp [d1, d2, d3, d4], z1, some d, L4, c4, rfl, rfl, hL4.trans h3⟩)
    obtain ⟨ρ2, S2, e4, y1, y4, L2, b2, h1, _⟩ := hmain
    exact ⟨ρ2, S2, e4, y1, y4, h1⟩
  simp
noncomputable def m_law (A : Ad) : List D → Sto → Res D := Classical.choose (ex_law A)
theorem ok_law {P : Program} {w : World} {K : PySem.W.Frag} {mg : Str → Option Value} {base : Heap} {A : Ad} (T : Txt P w K mg base A) : FnG P w K mg base (L2.CX P w) 7 A.law (spF 1 (m_law A)) := (Classical.choose_spec (ex_law A)).1 T
theorem sp_law (A : Ad) : ∀ (ns : List Int), ∃ S', (m_law A) [.scr ns] [] = .ok (.bl true) S' := (Classical.choose_spec (ex_law A)).2
end K2
set_option Elab.async false
set_option linter.all false
set_option maxRecDepth 100000
set_option maxHeartbeats 4000000
set_option autoImplicit false
namespace K2
open PySem PySem.Spec PyProof.Rows L2 DL
abbrev si_BadPath : Stmt := (clsBody (topS 1)).getD 0 (.Pass ⟨0, 0, 0, 0⟩)
theorem si_BadPath_sc : FnScope [Str.ofString "self", Str.ofString "path"] [Str.ofString "self", Str.ofString "path"] (defScope si_BadPath) := ⟨rfl, rfl, rfl, by decide +kernel, rfl, by decide +kernel, by decide +kernel⟩
abbrev si_BadName : Stmt := (clsBody (topS 2)).getD 0 (.Pass ⟨0, 0, 0, 0⟩)
theorem si_BadName_sc : FnScope [Str.ofString "self", Str.ofString "name"] [Str.ofString "self", Str.ofString "name"] (defScope si_BadName) := ⟨rfl, rfl, rfl, by decide +kernel, rfl, by decide +kernel, by decide +kernel⟩
abbrev si_BadEntry : Stmt := (clsBody (topS 3)).getD 0 (.Pass ⟨0, 0, 0, 0⟩)
theorem si_BadEntry_sc : FnScope [Str.ofString "self", Str.ofString "path"] [Str.ofString "self", Str.ofString "path"] (defScope si_BadEntry) := ⟨rfl, rfl, rfl, by decide +kernel, rfl, by decide +kernel, by decide +kernel⟩
theorem all_mk {P : Program} {w : World} {K : PySem.W.Frag} {h : Heap} {mg : Str → Option Value} {fa : Addr} (X : K.In h) (G : h.Ns mainGlobals mg) (hfa : mg "law" = some (.ref fa))
    {f_is_name : Addr} {oc_is_name kV_is_name dc_is_name pm_is_name cd_is_name ct_is_name : Value} {od_is_name an_is_name : Option Addr} {sl_is_name : Array (Option Value)}
    {f_is_path : Addr} {oc_is_path kV_is_path dc_is_path pm_is_path cd_is_path ct_is_path : Value} {od_is_path an_is_path : Option Addr} {sl_is_path : Array (Option Value)}
    {f_look_path : Addr} {oc_look_path kV_look_path dc_look_path pm_look_path cd_look_path ct_look_path : Value} {od_look_path an_look_path : Option Addr} {sl_look_path : Array (Option Value)}
    {f_names_in : Addr} {oc_names_in kV_names_in dc_names_in pm_names_in cd_names_in ct_names_in : Value} {od_names_in an_names_in : Option Addr} {sl_names_in : Array (Option Value)}
    {f_names_of : Addr} {oc_names_of kV_names_of dc_names_of pm_names_of cd_names_of ct_names_of : Value} {od_names_of an_names_of : Option Addr} {sl_names_of : Array (Option Value)}
    {f_path_of : Addr} {oc_path_of kV_path_of dc_path_of pm_path_of cd_path_of ct_path_of : Value} {od_path_of an_path_of : Option Addr} {sl_path_of : Array (Option Value)}
    {f_parent_in : Addr} {oc_parent_in kV_parent_in dc_parent_in pm_parent_in cd_parent_in ct_parent_in : Value} {od_parent_in an_parent_in : Option Addr} {sl_parent_in : Array (Option Value)}
    {f_parent : Addr} {oc_parent kV_parent dc_parent pm_parent cd_parent ct_parent : Value} {od_parent an_parent : Option Addr} {sl_parent : Array (Option Value)}
    {f_path_key : Addr} {oc_path_key kV_path_key dc_path_key pm_path_key cd_path_key ct_path_key : Value} {od_path_key an_path_key : Option Addr} {sl_path_key : Array (Option Value)}
    {f_in_order : Addr} {oc_in_order kV_in_order dc_in_order pm_in_order cd_in_order ct_in_order : Value} {od_in_order an_in_order : Option Addr} {sl_in_order : Array (Option Value)}
    {f__law_bag : Addr} {oc__law_bag kV__law_bag dc__law_bag pm__law_bag cd__law_bag ct__law_bag : Value} {od__law_bag an__law_bag : Option Addr} {sl__law_bag : Array (Option Value)}
    {f__law_take : Addr} {oc__law_take kV__law_take dc__law_take pm__law_take cd__law_take ct__law_take : Value} {od__law_take an__law_take : Option Addr} {sl__law_take : Array (Option Value)}
    {f__law_pick : Addr} {oc__law_pick kV__law_pick dc__law_pick pm__law_pick cd__law_pick ct__law_pick : Value} {od__law_pick an__law_pick : Option Addr} {sl__law_pick : Array (Option Value)}
    {f__law_words : Addr} {oc__law_words kV__law_words dc__law_words pm__law_words cd__law_words ct__law_words : Value} {od__law_words an__law_words : Option Addr} {sl__law_words : Array (Option Value)}
    {f__law_path : Addr} {oc__law_path kV__law_path dc__law_path pm__law_path cd__law_path ct__law_path : Value} {od__law_path an__law_path : Option Addr} {sl__law_path : Array (Option Value)}
    {f__law_made : Addr} {oc__law_made kV__law_made dc__law_made pm__law_made cd__law_made ct__law_made : Value} {od__law_made an__law_made : Option Addr} {sl__law_made : Array (Option Value)}
    {f__law_made_right : Addr} {oc__law_made_right kV__law_made_right dc__law_made_right pm__law_made_right cd__law_made_right ct__law_made_right : Value} {od__law_made_right an__law_made_right : Option Addr} {sl__law_made_right : Array (Option Value)}
    {f__law_path_right : Addr} {oc__law_path_right kV__law_path_right dc__law_path_right pm__law_path_right cd__law_path_right ct__law_path_right : Value} {od__law_path_right an__law_path_right : Option Addr} {sl__law_path_right : Array (Option Value)}
    {f__law_before : Addr} {oc__law_before kV__law_before dc__law_before pm__law_before cd__law_before ct__law_before : Value} {od__law_before an__law_before : Option Addr} {sl__law_before : Array (Option Value)}
    {f__law_order_right : Addr} {oc__law_order_right kV__law_order_right dc__law_order_right pm__law_order_right cd__law_order_right ct__law_order_right : Value} {od__law_order_right an__law_order_right : Option Addr} {sl__law_order_right : Array (Option Value)}
    {f_law : Addr} {oc_law kV_law dc_law pm_law cd_law ct_law : Value} {od_law an_law : Option Addr} {sl_law : Array (Option Value)}
    {t_LETTERS : Tok}
    {t_MOST_LETTERS : Tok}
    {t_ROOT : Tok}
    {C_BadPath i_BadPath N_BadPath : Addr} {nm_BadPath q_BadPath : Str} {bs_BadPath : List Value} {sn_BadPath : List Str} {su_BadPath : List Value} {ab_BadPath : Bool} {co_BadPath : Option Bool} {dd_BadPath : Option Addr} {m0_BadPath m1_BadPath m2_BadPath m3_BadPath m5_BadPath : Option Value} {oc_BadPath kV_BadPath dc_BadPath pm_BadPath cd_BadPath ct_BadPath : Value} {od_BadPath an_BadPath : Option Addr} {sl_BadPath : Array (Option Value)}
    {C_BadName i_BadName N_BadName : Addr} {nm_BadName q_BadName : Str} {bs_BadName : List Value} {sn_BadName : List Str} {su_BadName : List Value} {ab_BadName : Bool} {co_BadName : Option Bool} {dd_BadName : Option Addr} {m0_BadName m1_BadName m2_BadName m3_BadName m5_BadName : Option Value} {oc_BadName kV_BadName dc_BadName pm_BadName cd_BadName ct_BadName : Value} {od_BadName an_BadName : Option Addr} {sl_BadName : Array (Option Value)}
    {C_BadEntry i_BadEntry N_BadEntry : Addr} {nm_BadEntry q_BadEntry : Str} {bs_BadEntry : List Value} {sn_BadEntry : List Str} {su_BadEntry : List Value} {ab_BadEntry : Bool} {co_BadEntry : Option Bool} {dd_BadEntry : Option Addr} {m0_BadEntry m1_BadEntry m2_BadEntry m3_BadEntry m5_BadEntry : Option Value} {oc_BadEntry kV_BadEntry dc_BadEntry pm_BadEntry cd_BadEntry ct_BadEntry : Value} {od_BadEntry an_BadEntry : Option Addr} {sl_BadEntry : Array (Option Value)}
    (a_is_name : PySem.W.nsIn K mainGlobals "is_name" = some (some (.ref f_is_name)))
    (l_is_name : K.lookup f_is_name = some ⟨oc_is_name, od_is_name, .func (PySem.W.fnOf "is_name" "is_name" (defArgs s_is_name) (defBody s_is_name) (defScope s_is_name) .none kV_is_name dc_is_name pm_is_name an_is_name cd_is_name ct_is_name), sl_is_name⟩)
    (c_is_name : PySem.W.codeIn K cd_is_name "is_name" = true)
    (k_is_name : PySem.W.keepIn K (.ref f_is_name) = true)
    (a_is_path : PySem.W.nsIn K mainGlobals "is_path" = some (some (.ref f_is_path)))
    (l_is_path : K.lookup f_is_path = some ⟨oc_is_path, od_is_path, .func (PySem.W.fnOf "is_path" "is_path" (defArgs s_is_path) (defBody s_is_path) (defScope s_is_path) .none kV_is_path dc_is_path pm_is_path an_is_path cd_is_path ct_is_path), sl_is_path⟩)
    (c_is_path : PySem.W.codeIn K cd_is_path "is_path" = true)
    (k_is_path : PySem.W.keepIn K (.ref f_is_path) = true)
    (a_look_path : PySem.W.nsIn K mainGlobals "look_path" = some (some (.ref f_look_path)))
    (l_look_path : K.lookup f_look_path = some ⟨oc_look_path, od_look_path, .func (PySem.W.fnOf "look_path" "look_path" (defArgs s_look_path) (defBody s_look_path) (defScope s_look_path) .none kV_look_path dc_look_path pm_look_path an_look_path cd_look_path ct_look_path), sl_look_path⟩)
    (c_look_path : PySem.W.codeIn K cd_look_path "look_path" = true)
    (k_look_path : PySem.W.keepIn K (.ref f_look_path) = true)
    (a_names_in : PySem.W.nsIn K mainGlobals "names_in" = some (some (.ref f_names_in)))
    (l_names_in : K.lookup f_names_in = some ⟨oc_names_in, od_names_in, .func (PySem.W.fnOf "names_in" "names_in" (defArgs s_names_in) (defBody s_names_in) (defScope s_names_in) .none kV_names_in dc_names_in pm_names_in an_names_in cd_names_in ct_names_in), sl_names_in⟩)
    (c_names_in : PySem.W.codeIn K cd_names_in "names_in" = true)
    (k_names_in : PySem.W.keepIn K (.ref f_names_in) = true)
    (a_names_of : PySem.W.nsIn K mainGlobals "names_of" = some (some (.ref f_names_of)))
    (l_names_of : K.lookup f_names_of = some ⟨oc_names_of, od_names_of, .func (PySem.W.fnOf "names_of" "names_of" (defArgs s_names_of) (defBody s_names_of) (defScope s_names_of) .none kV_names_of dc_names_of pm_names_of an_names_of cd_names_of ct_names_of), sl_names_of⟩)
    (c_names_of : PySem.W.codeIn K cd_names_of "names_of" = true)
    (k_names_of : PySem.W.keepIn K (.ref f_names_of) = true)
    (a_path_of : PySem.W.nsIn K mainGlobals "path_of" = some (some (.ref f_path_of)))
    (l_path_of : K.lookup f_path_of = some ⟨oc_path_of, od_path_of, .func (PySem.W.fnOf "path_of" "path_of" (defArgs s_path_of) (defBody s_path_of) (defScope s_path_of) .none kV_path_of dc_path_of pm_path_of an_path_of cd_path_of ct_path_of), sl_path_of⟩)
    (c_path_of : PySem.W.codeIn K cd_path_of "path_of" = true)
    (k_path_of : PySem.W.keepIn K (.ref f_path_of) = true)
    (a_parent_in : PySem.W.nsIn K mainGlobals "parent_in" = some (some (.ref f_parent_in)))
    (l_parent_in : K.lookup f_parent_in = some ⟨oc_parent_in, od_parent_in, .func (PySem.W.fnOf "parent_in" "parent_in" (defArgs s_parent_in) (defBody s_parent_in) (defScope s_parent_in) .none kV_parent_in dc_parent_in pm_parent_in an_parent_in cd_parent_in ct_parent_in), sl_parent_in⟩)
    (c_parent_in : PySem.W.codeIn K cd_parent_in "parent_in" = true)
    (k_parent_in : PySem.W.keepIn K (.ref f_parent_in) = true)
    (a_parent : PySem.W.nsIn K mainGlobals "parent" = some (some (.ref f_parent)))
    (l_parent : K.lookup f_parent = some ⟨oc_parent, od_parent, .func (PySem.W.fnOf "parent" "parent" (defArgs s_parent) (defBody s_parent) (defScope s_parent) .none kV_parent dc_parent pm_parent an_parent cd_parent ct_parent), sl_parent⟩)
    (c_parent : PySem.W.codeIn K cd_parent "parent" = true)
    (k_parent : PySem.W.keepIn K (.ref f_parent) = true)
    (a_path_key : PySem.W.nsIn K mainGlobals "path_key" = some (some (.ref f_path_key)))
    (l_path_key : K.lookup f_path_key = some ⟨oc_path_key, od_path_key, .func (PySem.W.fnOf "path_key" "path_key" (defArgs s_path_key) (defBody s_path_key) (defScope s_path_key) .none kV_path_key dc_path_key pm_path_key an_path_key cd_path_key ct_path_key), sl_path_key⟩)
    (c_path_key : PySem.W.codeIn K cd_path_key "path_key" = true)
    (k_path_key : PySem.W.keepIn K (.ref f_path_key) = true)
    (a_in_order : PySem.W.nsIn K mainGlobals "in_order" = some (some (.ref f_in_order)))
    (l_in_order : K.lookup f_in_order = some ⟨oc_in_order, od_in_order, .func (PySem.W.fnOf "in_order" "in_order" (defArgs s_in_order) (defBody s_in_order) (defScope s_in_order) .none kV_in_order dc_in_order pm_in_order an_in_order cd_in_order ct_in_order), sl_in_order⟩)
    (c_in_order : PySem.W.codeIn K cd_in_order "in_order" = true)
    (k_in_order : PySem.W.keepIn K (.ref f_in_order) = true)
    (a__law_bag : PySem.W.nsIn K mainGlobals "_law_bag" = some (some (.ref f__law_bag)))
    (l__law_bag : K.lookup f__law_bag = some ⟨oc__law_bag, od__law_bag, .func (PySem.W.fnOf "_law_bag" "_law_bag" (defArgs s__law_bag) (defBody s__law_bag) (defScope s__law_bag) .none kV__law_bag dc__law_bag pm__law_bag an__law_bag cd__law_bag ct__law_bag), sl__law_bag⟩)
    (c__law_bag : PySem.W.codeIn K cd__law_bag "_law_bag" = true)
    (k__law_bag : PySem.W.keepIn K (.ref f__law_bag) = true)
    (a__law_take : PySem.W.nsIn K mainGlobals "_law_take" = some (some (.ref f__law_take)))
    (l__law_take : K.lookup f__law_take = some ⟨oc__law_take, od__law_take, .func (PySem.W.fnOf "_law_take" "_law_take" (defArgs s__law_take) (defBody s__law_take) (defScope s__law_take) .none kV__law_take dc__law_take pm__law_take an__law_take cd__law_take ct__law_take), sl__law_take⟩)
    (c__law_take : PySem.W.codeIn K cd__law_take "_law_take" = true)
    (k__law_take : PySem.W.keepIn K (.ref f__law_take) = true)
    (a__law_pick : PySem.W.nsIn K mainGlobals "_law_pick" = some (some (.ref f__law_pick)))
    (l__law_pick : K.lookup f__law_pick = some ⟨oc__law_pick, od__law_pick, .func (PySem.W.fnOf "_law_pick" "_law_pick" (defArgs s__law_pick) (defBody s__law_pick) (defScope s__law_pick) .none kV__law_pick dc__law_pick pm__law_pick an__law_pick cd__law_pick ct__law_pick), sl__law_pick⟩)
    (c__law_pick : PySem.W.codeIn K cd__law_pick "_law_pick" = true)
    (k__law_pick : PySem.W.keepIn K (.ref f__law_pick) = true)
    (a__law_words : PySem.W.nsIn K mainGlobals "_law_words" = some (some (.ref f__law_words)))
    (l__law_words : K.lookup f__law_words = some ⟨oc__law_words, od__law_words, .func (PySem.W.fnOf "_law_words" "_law_words" (defArgs s__law_words) (defBody s__law_words) (defScope s__law_words) .none kV__law_words dc__law_words pm__law_words an__law_words cd__law_words ct__law_words), sl__law_words⟩)
    (c__law_words : PySem.W.codeIn K cd__law_words "_law_words" = true)
    (k__law_words : PySem.W.keepIn K (.ref f__law_words) = true)
    (a__law_path : PySem.W.nsIn K mainGlobals "_law_path" = some (some (.ref f__law_path)))
    (l__law_path : K.lookup f__law_path = some ⟨oc__law_path, od__law_path, .func (PySem.W.fnOf "_law_path" "_law_path" (defArgs s__law_path) (defBody s__law_path) (defScope s__law_path) .none kV__law_path dc__law_path pm__law_path an__law_path cd__law_path ct__law_path), sl__law_path⟩)
    (c__law_path : PySem.W.codeIn K cd__law_path "_law_path" = true)
    (k__law_path : PySem.W.keepIn K (.ref f__law_path) = true)
    (a__law_made : PySem.W.nsIn K mainGlobals "_law_made" = some (some (.ref f__law_made)))
    (l__law_made : K.lookup f__law_made = some ⟨oc__law_made, od__law_made, .func (PySem.W.fnOf "_law_made" "_law_made" (defArgs s__law_made) (defBody s__law_made) (defScope s__law_made) .none kV__law_made dc__law_made pm__law_made an__law_made cd__law_made ct__law_made), sl__law_made⟩)
    (c__law_made : PySem.W.codeIn K cd__law_made "_law_made" = true)
    (k__law_made : PySem.W.keepIn K (.ref f__law_made) = true)
    (a__law_made_right : PySem.W.nsIn K mainGlobals "_law_made_right" = some (some (.ref f__law_made_right)))
    (l__law_made_right : K.lookup f__law_made_right = some ⟨oc__law_made_right, od__law_made_right, .func (PySem.W.fnOf "_law_made_right" "_law_made_right" (defArgs s__law_made_right) (defBody s__law_made_right) (defScope s__law_made_right) .none kV__law_made_right dc__law_made_right pm__law_made_right an__law_made_right cd__law_made_right ct__law_made_right), sl__law_made_right⟩)
    (c__law_made_right : PySem.W.codeIn K cd__law_made_right "_law_made_right" = true)
    (k__law_made_right : PySem.W.keepIn K (.ref f__law_made_right) = true)
    (a__law_path_right : PySem.W.nsIn K mainGlobals "_law_path_right" = some (some (.ref f__law_path_right)))
    (l__law_path_right : K.lookup f__law_path_right = some ⟨oc__law_path_right, od__law_path_right, .func (PySem.W.fnOf "_law_path_right" "_law_path_right" (defArgs s__law_path_right) (defBody s__law_path_right) (defScope s__law_path_right) .none kV__law_path_right dc__law_path_right pm__law_path_right an__law_path_right cd__law_path_right ct__law_path_right), sl__law_path_right⟩)
    (c__law_path_right : PySem.W.codeIn K cd__law_path_right "_law_path_right" = true)
    (k__law_path_right : PySem.W.keepIn K (.ref f__law_path_right) = true)
    (a__law_before : PySem.W.nsIn K mainGlobals "_law_before" = some (some (.ref f__law_before)))
    (l__law_before : K.lookup f__law_before = some ⟨oc__law_before, od__law_before, .func (PySem.W.fnOf "_law_before" "_law_before" (defArgs s__law_before) (defBody s__law_before) (defScope s__law_before) .none kV__law_before dc__law_before pm__law_before an__law_before cd__law_before ct__law_before), sl__law_before⟩)
    (c__law_before : PySem.W.codeIn K cd__law_before "_law_before" = true)
    (k__law_before : PySem.W.keepIn K (.ref f__law_before) = true)
    (a__law_order_right : PySem.W.nsIn K mainGlobals "_law_order_right" = some (some (.ref f__law_order_right)))
    (l__law_order_right : K.lookup f__law_order_right = some ⟨oc__law_order_right, od__law_order_right, .func (PySem.W.fnOf "_law_order_right" "_law_order_right" (defArgs s__law_order_right) (defBody s__law_order_right) (defScope s__law_order_right) .none kV__law_order_right dc__law_order_right pm__law_order_right an__law_order_right cd__law_order_right ct__law_order_right), sl__law_order_right⟩)
    (c__law_order_right : PySem.W.codeIn K cd__law_order_right "_law_order_right" = true)
    (k__law_order_right : PySem.W.keepIn K (.ref f__law_order_right) = true)
    (a_law : PySem.W.nsIn K mainGlobals "law" = some (some (.ref f_law)))
    (l_law : K.lookup f_law = some ⟨oc_law, od_law, .func (PySem.W.fnOf "law" "law" (defArgs s_law) (defBody s_law) (defScope s_law) .none kV_law dc_law pm_law an_law cd_law ct_law), sl_law⟩)
    (c_law : PySem.W.codeIn K cd_law "law" = true)
    (k_law : PySem.W.keepIn K (.ref f_law) = true)
    (a_LETTERS : PySem.W.nsIn K mainGlobals "LETTERS" = some (some (.str "abcdefghijklmnopqrstuvwxyz" t_LETTERS)))
    (a_MOST_LETTERS : PySem.W.nsIn K mainGlobals "MOST_LETTERS" = some (some (.int 8 t_MOST_LETTERS)))
    (a_ROOT : PySem.W.nsIn K mainGlobals "ROOT" = some (some (.str "" t_ROOT)))
    (a_BadPath : PySem.W.nsIn K mainGlobals "BadPath" = some (some (.ref C_BadPath)))
    (x_BadPath : K.lookup C_BadPath = some (excClassObj nm_BadPath q_BadPath C_BadPath N_BadPath bs_BadPath [.type "ValueError", .type "Exception", .type "BaseException", .type "object"] true sn_BadPath su_BadPath ab_BadPath co_BadPath dd_BadPath m0_BadPath m1_BadPath m2_BadPath m3_BadPath m5_BadPath "ValueError.__new__"))
    (sa_BadPath : PySem.W.findIn K (.ref C_BadPath) "__setattr__" = some (some (.builtin "object.__setattr__")))
    (ga_BadPath : PySem.W.findIn K (.ref C_BadPath) "__getattribute__" = some (some (.builtin "BaseException.__getattribute__")))
    (gg_BadPath : PySem.W.findIn K (.ref C_BadPath) "__getattr__" = some none)
    (n_BadPath_path : PySem.W.findIn K (.ref C_BadPath) "path" = some none)
    (i1_BadPath : PySem.W.findIn K (.ref C_BadPath) "__init__" = some (some (.ref i_BadPath)))
    (i2_BadPath : PySem.W.typeIn K (.ref i_BadPath) = some (.type "function"))
    (i3_BadPath : K.lookup i_BadPath = some ⟨oc_BadPath, od_BadPath, .func (PySem.W.fnOf "__init__" "BadPath.__init__" (defArgs si_BadPath) (defBody si_BadPath) (defScope si_BadPath) .none kV_BadPath dc_BadPath pm_BadPath an_BadPath cd_BadPath ct_BadPath), sl_BadPath⟩)
    (i4_BadPath : PySem.W.codeIn K cd_BadPath "BadPath.__init__" = true)
    (i5_BadPath : PySem.W.keepIn K (.ref i_BadPath) = true)
    (k1_BadPath : PySem.W.keepIn K (.ref C_BadPath) = true)
    (k2_BadPath : PySem.W.subIn K (.ref C_BadPath) (.type "BaseException") = some true)
    (k3_BadPath : PySem.W.typeIn K (.ref C_BadPath) = some (.type "type"))
    (k4_BadPath : PySem.W.hasDictIn K C_BadPath = true)
    (e1_BadPath : PySem.W.findIn K (.ref C_BadPath) "__class__" = some (some (.builtin "object.__class__")))
    (e2_BadPath : PySem.W.mroIn K C_BadPath (.type "object") = some true)
    (e3_BadPath : PySem.W.exmOne K (.ref C_BadPath) (.ref C_BadPath) = some true)
    (a_BadName : PySem.W.nsIn K mainGlobals "BadName" = some (some (.ref C_BadName)))
    (x_BadName : K.lookup C_BadName = some (excClassObj nm_BadName q_BadName C_BadName N_BadName bs_BadName [.type "ValueError", .type "Exception", .type "BaseException", .type "object"] true sn_BadName su_BadName ab_BadName co_BadName dd_BadName m0_BadName m1_BadName m2_BadName m3_BadName m5_BadName "ValueError.__new__"))
    (sa_BadName : PySem.W.findIn K (.ref C_BadName) "__setattr__" = some (some (.builtin "object.__setattr__")))
    (ga_BadName : PySem.W.findIn K (.ref C_BadName) "__getattribute__" = some (some (.builtin "BaseException.__getattribute__")))
    (gg_BadName : PySem.W.findIn K (.ref C_BadName) "__getattr__" = some none)
    (n_BadName_name : PySem.W.findIn K (.ref C_BadName) "name" = some none)
    (i1_BadName : PySem.W.findIn K (.ref C_BadName) "__init__" = some (some (.ref i_BadName)))
    (i2_BadName : PySem.W.typeIn K (.ref i_BadName) = some (.type "function"))
    (i3_BadName : K.lookup i_BadName = some ⟨oc_BadName, od_BadName, .func (PySem.W.fnOf "__init__" "BadName.__init__" (defArgs si_BadName) (defBody si_BadName) (defScope si_BadName) .none kV_BadName dc_BadName pm_BadName an_BadName cd_BadName ct_BadName), sl_BadName⟩)
    (i4_BadName : PySem.W.codeIn K cd_BadName "BadName.__init__" = true)
    (i5_BadName : PySem.W.keepIn K (.ref i_BadName) = true)
    (k1_BadName : PySem.W.keepIn K (.ref C_BadName) = true)
    (k2_BadName : PySem.W.subIn K (.ref C_BadName) (.type "BaseException") = some true)
    (k3_BadName : PySem.W.typeIn K (.ref C_BadName) = some (.type "type"))
    (k4_BadName : PySem.W.hasDictIn K C_BadName = true)
    (e1_BadName : PySem.W.findIn K (.ref C_BadName) "__class__" = some (some (.builtin "object.__class__")))
    (e2_BadName : PySem.W.mroIn K C_BadName (.type "object") = some true)
    (e3_BadName : PySem.W.exmOne K (.ref C_BadName) (.ref C_BadName) = some true)
    (a_BadEntry : PySem.W.nsIn K mainGlobals "BadEntry" = some (some (.ref C_BadEntry)))
    (x_BadEntry : K.lookup C_BadEntry = some (excClassObj nm_BadEntry q_BadEntry C_BadEntry N_BadEntry bs_BadEntry [.type "ValueError", .type "Exception", .type "BaseException", .type "object"] true sn_BadEntry su_BadEntry ab_BadEntry co_BadEntry dd_BadEntry m0_BadEntry m1_BadEntry m2_BadEntry m3_BadEntry m5_BadEntry "ValueError.__new__"))
    (sa_BadEntry : PySem.W.findIn K (.ref C_BadEntry) "__setattr__" = some (some (.builtin "object.__setattr__")))
    (ga_BadEntry : PySem.W.findIn K (.ref C_BadEntry) "__getattribute__" = some (some (.builtin "BaseException.__getattribute__")))
    (gg_BadEntry : PySem.W.findIn K (.ref C_BadEntry) "__getattr__" = some none)
    (n_BadEntry_path : PySem.W.findIn K (.ref C_BadEntry) "path" = some none)
    (i1_BadEntry : PySem.W.findIn K (.ref C_BadEntry) "__init__" = some (some (.ref i_BadEntry)))
    (i2_BadEntry : PySem.W.typeIn K (.ref i_BadEntry) = some (.type "function"))
    (i3_BadEntry : K.lookup i_BadEntry = some ⟨oc_BadEntry, od_BadEntry, .func (PySem.W.fnOf "__init__" "BadEntry.__init__" (defArgs si_BadEntry) (defBody si_BadEntry) (defScope si_BadEntry) .none kV_BadEntry dc_BadEntry pm_BadEntry an_BadEntry cd_BadEntry ct_BadEntry), sl_BadEntry⟩)
    (i4_BadEntry : PySem.W.codeIn K cd_BadEntry "BadEntry.__init__" = true)
    (i5_BadEntry : PySem.W.keepIn K (.ref i_BadEntry) = true)
    (k1_BadEntry : PySem.W.keepIn K (.ref C_BadEntry) = true)
    (k2_BadEntry : PySem.W.subIn K (.ref C_BadEntry) (.type "BaseException") = some true)
    (k3_BadEntry : PySem.W.typeIn K (.ref C_BadEntry) = some (.type "type"))
    (k4_BadEntry : PySem.W.hasDictIn K C_BadEntry = true)
    (e1_BadEntry : PySem.W.findIn K (.ref C_BadEntry) "__class__" = some (some (.builtin "object.__class__")))
    (e2_BadEntry : PySem.W.mroIn K C_BadEntry (.type "object") = some true)
    (e3_BadEntry : PySem.W.exmOne K (.ref C_BadEntry) (.ref C_BadEntry) = some true)
    (zz1 : PySem.W.specialIn K (.builtin "object.__class__") "__get__" = some (some (.builtin "getset_descriptor.__get__")))
    (zz2 : PySem.W.takesIn K (.builtin "object.__class__") = some true)
    (zz0 : PySem.W.nsIn K mainGlobals "ValueError" = some none)
    (zz3 : PySem.W.findCls K (.type "ValueError") (.type "type") "__init__" = some (.val (.builtin "ValueError.__init__")))
    (xi_BadName_ValueError : PySem.W.kitOne K (.ref C_BadName) (.type "ValueError") = some true)
    (xi_BadName_BadPath_BadEntry : PySem.W.kitAny K (.ref C_BadName) ([.ref C_BadPath, .ref C_BadEntry]) = some false)
    (m_ValueError : PySem.W.nsIn K mainGlobals "ValueError" = some none)
    (m_abs : PySem.W.nsIn K mainGlobals "abs" = some none)
    (m_all : PySem.W.nsIn K mainGlobals "all" = some none)
    (m_int : PySem.W.nsIn K mainGlobals "int" = some none)
    (m_isinstance : PySem.W.nsIn K mainGlobals "isinstance" = some none)
    (m_len : PySem.W.nsIn K mainGlobals "len" = some none)
    (m_list : PySem.W.nsIn K mainGlobals "list" = some none)
    (m_max : PySem.W.nsIn K mainGlobals "max" = some none)
    (m_min : PySem.W.nsIn K mainGlobals "min" = some none)
    (m_range : PySem.W.nsIn K mainGlobals "range" = some none)
    (m_repr : PySem.W.nsIn K mainGlobals "repr" = some none)
    (m_sorted : PySem.W.nsIn K mainGlobals "sorted" = some none)
    (m_str : PySem.W.nsIn K mainGlobals "str" = some none)
    (m_tuple : PySem.W.nsIn K mainGlobals "tuple" = some none) :
    ∃ m : List D → Sto → Res D, (∀ bs : Heap, K.In bs → bs.Ns mainGlobals mg → FnG P w K mg bs (L2.CX P w) 7 fa (spF 1 m)) ∧ ∀ ns : List Int, ns.length ≤ 63 → ∃ S', m [.scr ns] [] = .ok (.bl true) S' := by
  have e := hfa.symm.trans (PySem.W.mg_of X G a_law)
  cases e
  have o_BadPath : OexC K C_BadPath := ⟨⟨nm_BadPath, q_BadPath, N_BadPath, bs_BadPath, _, sn_BadPath, su_BadPath, ab_BadPath, co_BadPath, dd_BadPath, m0_BadPath, m1_BadPath, m2_BadPath, m3_BadPath, m5_BadPath, x_BadPath, by decide +kernel⟩, sa_BadPath, k2_BadPath, k3_BadPath, k1_BadPath⟩
  have F_BadPath := fun_mk (st := si_BadPath) i3_BadPath i4_BadPath i5_BadPath
  have o_BadName : OexC K C_BadName := ⟨⟨nm_BadName, q_BadName, N_BadName, bs_BadName, _, sn_BadName, su_BadName, ab_BadName, co_BadName, dd_BadName, m0_BadName, m1_BadName, m2_BadName, m3_BadName, m5_BadName, x_BadName, by decide +kernel⟩, sa_BadName, k2_BadName, k3_BadName, k1_BadName⟩
  have F_BadName := fun_mk (st := si_BadName) i3_BadName i4_BadName i5_BadName
  have o_BadEntry : OexC K C_BadEntry := ⟨⟨nm_BadEntry, q_BadEntry, N_BadEntry, bs_BadEntry, _, sn_BadEntry, su_BadEntry, ab_BadEntry, co_BadEntry, dd_BadEntry, m0_BadEntry, m1_BadEntry, m2_BadEntry, m3_BadEntry, m5_BadEntry, x_BadEntry, by decide +kernel⟩, sa_BadEntry, k2_BadEntry, k3_BadEntry, k1_BadEntry⟩
  have F_BadEntry := fun_mk (st := si_BadEntry) i3_BadEntry i4_BadEntry i5_BadEntry
  let A : Ad := { is_name := f_is_name, fd_is_name := PySem.W.fnOf "is_name" "is_name" (defArgs s_is_name) (defBody s_is_name) (defScope s_is_name) .none kV_is_name dc_is_name pm_is_name an_is_name cd_is_name ct_is_name, is_path := f_is_path, fd_is_path := PySem.W.fnOf "is_path" "is_path" (defArgs s_is_path) (defBody s_is_path) (defScope s_is_path) .none kV_is_path dc_is_path pm_is_path an_is_path cd_is_path ct_is_path, look_path := f_look_path, fd_look_path := PySem.W.fnOf "look_path" "look_path" (defArgs s_look_path) (defBody s_look_path) (defScope s_look_path) .none kV_look_path dc_look_path pm_look_path an_look_path cd_look_path ct_look_path, names_in := f_names_in, fd_names_in := PySem.W.fnOf "names_in" "names_in" (defArgs s_names_in) (defBody s_names_in) (defScope s_names_in) .none kV_names_in dc_names_in pm_names_in an_names_in cd_names_in ct_names_in, names_of := f_names_of, fd_names_of := PySem.W.fnOf "names_of" "names_of" (defArgs s_names_of) (defBody s_names_of) (defScope s_names_of) .none kV_names_of dc_names_of pm_names_of an_names_of cd_names_of ct_names_of, path_of := f_path_of, fd_path_of := PySem.W.fnOf "path_of" "path_of" (defArgs s_path_of) (defBody s_path_of) (defScope s_path_of) .none kV_path_of dc_path_of pm_path_of an_path_of cd_path_of ct_path_of, parent_in := f_parent_in, fd_parent_in := PySem.W.fnOf "parent_in" "parent_in" (defArgs s_parent_in) (defBody s_parent_in) (defScope s_parent_in) .none kV_parent_in dc_parent_in pm_parent_in an_parent_in cd_parent_in ct_parent_in, parent := f_parent, fd_parent := PySem.W.fnOf "parent" "parent" (defArgs s_parent) (defBody s_parent) (defScope s_parent) .none kV_parent dc_parent pm_parent an_parent cd_parent ct_parent, path_key := f_path_key, fd_path_key := PySem.W.fnOf "path_key" "path_key" (defArgs s_path_key) (defBody s_path_key) (defScope s_path_key) .none kV_path_key dc_path_key pm_path_key an_path_key cd_path_key ct_path_key, in_order := f_in_order, fd_in_order := PySem.W.fnOf "in_order" "in_order" (defArgs s_in_order) (defBody s_in_order) (defScope s_in_order) .none kV_in_order dc_in_order pm_in_order an_in_order cd_in_order ct_in_order, _law_bag := f__law_bag, fd__law_bag := PySem.W.fnOf "_law_bag" "_law_bag" (defArgs s__law_bag) (defBody s__law_bag) (defScope s__law_bag) .none kV__law_bag dc__law_bag pm__law_bag an__law_bag cd__law_bag ct__law_bag, _law_take := f__law_take, fd__law_take := PySem.W.fnOf "_law_take" "_law_take" (defArgs s__law_take) (defBody s__law_take) (defScope s__law_take) .none kV__law_take dc__law_take pm__law_take an__law_take cd__law_take ct__law_take, _law_pick := f__law_pick, fd__law_pick := PySem.W.fnOf "_law_pick" "_law_pick" (defArgs s__law_pick) (defBody s__law_pick) (defScope s__law_pick) .none kV__law_pick dc__law_pick pm__law_pick an__law_pick cd__law_pick ct__law_pick, _law_words := f__law_words, fd__law_words := PySem.W.fnOf "_law_words" "_law_words" (defArgs s__law_words) (defBody s__law_words) (defScope s__law_words) .none kV__law_words dc__law_words pm__law_words an__law_words cd__law_words ct__law_words, _law_path := f__law_path, fd__law_path := PySem.W.fnOf "_law_path" "_law_path" (defArgs s__law_path) (defBody s__law_path) (defScope s__law_path) .none kV__law_path dc__law_path pm__law_path an__law_path cd__law_path ct__law_path, _law_made := f__law_made, fd__law_made := PySem.W.fnOf "_law_made" "_law_made" (defArgs s__law_made) (defBody s__law_made) (defScope s__law_made) .none kV__law_made dc__law_made pm__law_made an__law_made cd__law_made ct__law_made, _law_made_right := f__law_made_right, fd__law_made_right := PySem.W.fnOf "_law_made_right" "_law_made_right" (defArgs s__law_made_right) (defBody s__law_made_right) (defScope s__law_made_right) .none kV__law_made_right dc__law_made_right pm__law_made_right an__law_made_right cd__law_made_right ct__law_made_right, _law_path_right := f__law_path_right, fd__law_path_right := PySem.W.fnOf "_law_path_right" "_law_path_right" (defArgs s__law_path_right) (defBody s__law_path_right) (defScope s__law_path_right) .none kV__law_path_right dc__law_path_right pm__law_path_right an__law_path_right cd__law_path_right ct__law_path_right, _law_before := f__law_before, fd__law_before := PySem.W.fnOf "_law_before" "_law_before" (defArgs s__law_before) (defBody s__law_before) (defScope s__law_before) .none kV__law_before dc__law_before pm__law_before an__law_before cd__law_before ct__law_before, _law_order_right := f__law_order_right, fd__law_order_right := PySem.W.fnOf "_law_order_right" "_law_order_right" (defArgs s__law_order_right) (defBody s__law_order_right) (defScope s__law_order_right) .none kV__law_order_right dc__law_order_right pm__law_order_right an__law_order_right cd__law_order_right ct__law_order_right, law := fa, fd_law := PySem.W.fnOf "law" "law" (defArgs s_law) (defBody s_law) (defScope s_law) .none kV_law dc_law pm_law an_law cd_law ct_law, t_LETTERS := t_LETTERS, t_MOST_LETTERS := t_MOST_LETTERS, t_ROOT := t_ROOT, C_BadPath := C_BadPath, C_BadName := C_BadName, C_BadEntry := C_BadEntry }
  have T : ∀ bs : Heap, Txt P w K mg bs A := fun bs => {
    F_is_name := (fun_mk (st := s_is_name) l_is_name c_is_name k_is_name),
    g_is_name := (PySem.W.mg_of X G a_is_name),
    k_is_name := (k_is_name),
    b_is_name := ((fun_mk (st := s_is_name) l_is_name c_is_name k_is_name).binds fun _ _ _ _ _ _ us hl => match us, hl with | [_], _ => rfl),
    F_is_path := (fun_mk (st := s_is_path) l_is_path c_is_path k_is_path),
    g_is_path := (PySem.W.mg_of X G a_is_path),
    k_is_path := (k_is_path),
    b_is_path := ((fun_mk (st := s_is_path) l_is_path c_is_path k_is_path).binds fun _ _ _ _ _ _ us hl => match us, hl with | [_], _ => rfl),
    F_look_path := (fun_mk (st := s_look_path) l_look_path c_look_path k_look_path),
    g_look_path := (PySem.W.mg_of X G a_look_path),
    k_look_path := (k_look_path),
    b_look_path := ((fun_mk (st := s_look_path) l_look_path c_look_path k_look_path).binds fun _ _ _ _ _ _ us hl => match us, hl with | [_], _ => rfl),
    F_names_in := (fun_mk (st := s_names_in) l_names_in c_names_in k_names_in),
    g_names_in := (PySem.W.mg_of X G a_names_in),
    k_names_in := (k_names_in),
    b_names_in := ((fun_mk (st := s_names_in) l_names_in c_names_in k_names_in).binds fun _ _ _ _ _ _ us hl => match us, hl with | [_], _ => rfl),
    F_names_of := (fun_mk (st := s_names_of) l_names_of c_names_of k_names_of),
    g_names_of := (PySem.W.mg_of X G a_names_of),
    k_names_of := (k_names_of),
    b_names_of := ((fun_mk (st := s_names_of) l_names_of c_names_of k_names_of).binds fun _ _ _ _ _ _ us hl => match us, hl with | [_], _ => rfl),
    F_path_of := (fun_mk (st := s_path_of) l_path_of c_path_of k_path_of),
    g_path_of := (PySem.W.mg_of X G a_path_of),
    k_path_of := (k_path_of),
    F_parent_in := (fun_mk (st := s_parent_in) l_parent_in c_parent_in k_parent_in),
    g_parent_in := (PySem.W.mg_of X G a_parent_in),
    k_parent_in := (k_parent_in),
    b_parent_in := ((fun_mk (st := s_parent_in) l_parent_in c_parent_in k_parent_in).binds fun _ _ _ _ _ _ us hl => match us, hl with | [_], _ => rfl),
    F_parent := (fun_mk (st := s_parent) l_parent c_parent k_parent),
    g_parent := (PySem.W.mg_of X G a_parent),
    k_parent := (k_parent),
    b_parent := ((fun_mk (st := s_parent) l_parent c_parent k_parent).binds fun _ _ _ _ _ _ us hl => match us, hl with | [_], _ => rfl),
    F_path_key := (fun_mk (st := s_path_key) l_path_key c_path_key k_path_key),
    g_path_key := (PySem.W.mg_of X G a_path_key),
    k_path_key := (k_path_key),
    b_path_key := ((fun_mk (st := s_path_key) l_path_key c_path_key k_path_key).binds fun _ _ _ _ _ _ us hl => match us, hl with | [_], _ => rfl),
    F_in_order := (fun_mk (st := s_in_order) l_in_order c_in_order k_in_order),
    g_in_order := (PySem.W.mg_of X G a_in_order),
    k_in_order := (k_in_order),
    b_in_order := ((fun_mk (st := s_in_order) l_in_order c_in_order k_in_order).binds fun _ _ _ _ _ _ us hl => match us, hl with | [_], _ => rfl),
    kb_in_order := (fun s us _ hl => match us, hl with | [_], _ => .of_eq rfl),
    F__law_bag := (fun_mk (st := s__law_bag) l__law_bag c__law_bag k__law_bag),
    g__law_bag := (PySem.W.mg_of X G a__law_bag),
    k__law_bag := (k__law_bag),
    b__law_bag := ((fun_mk (st := s__law_bag) l__law_bag c__law_bag k__law_bag).binds fun _ _ _ _ _ _ us hl => match us, hl with | [_, _], _ => rfl),
    F__law_take := (fun_mk (st := s__law_take) l__law_take c__law_take k__law_take),
    g__law_take := (PySem.W.mg_of X G a__law_take),
    k__law_take := (k__law_take),
    b__law_take := ((fun_mk (st := s__law_take) l__law_take c__law_take k__law_take).binds fun _ _ _ _ _ _ us hl => match us, hl with | [_, _], _ => rfl),
    F__law_pick := (fun_mk (st := s__law_pick) l__law_pick c__law_pick k__law_pick),
    g__law_pick := (PySem.W.mg_of X G a__law_pick),
    k__law_pick := (k__law_pick),
    b__law_pick := ((fun_mk (st := s__law_pick) l__law_pick c__law_pick k__law_pick).binds fun _ _ _ _ _ _ us hl => match us, hl with | [_, _], _ => rfl),
    F__law_words := (fun_mk (st := s__law_words) l__law_words c__law_words k__law_words),
    g__law_words := (PySem.W.mg_of X G a__law_words),
    k__law_words := (k__law_words),
    b__law_words := ((fun_mk (st := s__law_words) l__law_words c__law_words k__law_words).binds fun _ _ _ _ _ _ us hl => match us, hl with | [_, _], _ => rfl),
    F__law_path := (fun_mk (st := s__law_path) l__law_path c__law_path k__law_path),
    g__law_path := (PySem.W.mg_of X G a__law_path),
    k__law_path := (k__law_path),
    b__law_path := ((fun_mk (st := s__law_path) l__law_path c__law_path k__law_path).binds fun _ _ _ _ _ _ us hl => match us, hl with | [_, _, _], _ => rfl),
    F__law_made := (fun_mk (st := s__law_made) l__law_made c__law_made k__law_made),
    g__law_made := (PySem.W.mg_of X G a__law_made),
    k__law_made := (k__law_made),
    b__law_made := ((fun_mk (st := s__law_made) l__law_made c__law_made k__law_made).binds fun _ _ _ _ _ _ us hl => match us, hl with | [_], _ => rfl),
    F__law_made_right := (fun_mk (st := s__law_made_right) l__law_made_right c__law_made_right k__law_made_right),
    g__law_made_right := (PySem.W.mg_of X G a__law_made_right),
    k__law_made_right := (k__law_made_right),
    b__law_made_right := ((fun_mk (st := s__law_made_right) l__law_made_right c__law_made_right k__law_made_right).binds fun _ _ _ _ _ _ us hl => match us, hl with | [_, _], _ => rfl),
    F__law_path_right := (fun_mk (st := s__law_path_right) l__law_path_right c__law_path_right k__law_path_right),
    g__law_path_right := (PySem.W.mg_of X G a__law_path_right),
    k__law_path_right := (k__law_path_right),
    b__law_path_right := ((fun_mk (st := s__law_path_right) l__law_path_right c__law_path_right k__law_path_right).binds fun _ _ _ _ _ _ us hl => match us, hl with | [_], _ => rfl),
    F__law_before := (fun_mk (st := s__law_before) l__law_before c__law_before k__law_before),
    g__law_before := (PySem.W.mg_of X G a__law_before),
    k__law_before := (k__law_before),
    b__law_before := ((fun_mk (st := s__law_before) l__law_before c__law_before k__law_before).binds fun _ _ _ _ _ _ us hl => match us, hl with | [_, _], _ => rfl),
    F__law_order_right := (fun_mk (st := s__law_order_right) l__law_order_right c__law_order_right k__law_order_right),
    g__law_order_right := (PySem.W.mg_of X G a__law_order_right),
    k__law_order_right := (k__law_order_right),
    b__law_order_right := ((fun_mk (st := s__law_order_right) l__law_order_right c__law_order_right k__law_order_right).binds fun _ _ _ _ _ _ us hl => match us, hl with | [_, _], _ => rfl),
    F_law := (fun_mk (st := s_law) l_law c_law k_law),
    g_law := (PySem.W.mg_of X G a_law),
    k_law := (k_law),
    b_law := ((fun_mk (st := s_law) l_law c_law k_law).binds fun _ _ _ _ _ _ us hl => match us, hl with | [_], _ => rfl),
    g_LETTERS := (PySem.W.mg_of X G a_LETTERS),
    g_MOST_LETTERS := (PySem.W.mg_of X G a_MOST_LETTERS),
    g_ROOT := (PySem.W.mg_of X G a_ROOT),
    xf_BadPath := (⟨ga_BadPath, gg_BadPath, k2_BadPath, k4_BadPath⟩),
    xe_BadPath := (⟨ga_BadPath, gg_BadPath, k2_BadPath, k4_BadPath, e1_BadPath, zz1, zz2, e2_BadPath⟩),
    xm_BadPath := (e3_BadPath),
    xn_BadPath_path := (n_BadPath_path),
    x_BadPath := (⟨o_BadPath, PySem.W.mg_of X G a_BadPath, ⟨i_BadPath, _, i1_BadPath, i2_BadPath, init_x F_BadPath si_BadPath_sc o_BadPath n_BadPath_path (fun cdv A outer s H E => pss_cons (ps_expr (pe_veinit rfl (PySem.W.mg_none_of X G zz0) zz3 (pa_cons (pv 0) (pa_cons pe_str pa_nil)))) (pss_one (ps_ost (pv 0) (pv 1)))), F_BadPath.binds fun _ _ _ _ _ _ us hl => match us, hl with | [_, _], _ => rfl⟩, by decide⟩),
    xf_BadName := (⟨ga_BadName, gg_BadName, k2_BadName, k4_BadName⟩),
    xe_BadName := (⟨ga_BadName, gg_BadName, k2_BadName, k4_BadName, e1_BadName, zz1, zz2, e2_BadName⟩),
    xm_BadName := (e3_BadName),
    xn_BadName_name := (n_BadName_name),
    x_BadName := (⟨o_BadName, PySem.W.mg_of X G a_BadName, ⟨i_BadName, _, i1_BadName, i2_BadName, init_x F_BadName si_BadName_sc o_BadName n_BadName_name (fun cdv A outer s H E => pss_cons (ps_expr (pe_veinit rfl (PySem.W.mg_none_of X G zz0) zz3 (pa_cons (pv 0) (pa_cons pe_str pa_nil)))) (pss_one (ps_ost (pv 0) (pv 1)))), F_BadName.binds fun _ _ _ _ _ _ us hl => match us, hl with | [_, _], _ => rfl⟩, by decide⟩),
    xf_BadEntry := (⟨ga_BadEntry, gg_BadEntry, k2_BadEntry, k4_BadEntry⟩),
    xe_BadEntry := (⟨ga_BadEntry, gg_BadEntry, k2_BadEntry, k4_BadEntry, e1_BadEntry, zz1, zz2, e2_BadEntry⟩),
    xm_BadEntry := (e3_BadEntry),
    xn_BadEntry_path := (n_BadEntry_path),
    x_BadEntry := (⟨o_BadEntry, PySem.W.mg_of X G a_BadEntry, ⟨i_BadEntry, _, i1_BadEntry, i2_BadEntry, init_x F_BadEntry si_BadEntry_sc o_BadEntry n_BadEntry_path (fun cdv A outer s H E => pss_cons (ps_expr (pe_veinit rfl (PySem.W.mg_none_of X G zz0) zz3 (pa_cons (pv 0) (pa_cons pe_str pa_nil)))) (pss_one (ps_ost (pv 0) (pv 1)))), F_BadEntry.binds fun _ _ _ _ _ _ us hl => match us, hl with | [_, _], _ => rfl⟩, by decide⟩),
    xi_BadName_ValueError := (xi_BadName_ValueError),
    xi_BadName_BadPath_BadEntry := (⟨[C_BadPath, C_BadEntry], rfl, xi_BadName_BadPath_BadEntry⟩),
    m_ValueError := (PySem.W.mg_none_of X G m_ValueError),
    m_abs := (PySem.W.mg_none_of X G m_abs),
    m_all := (PySem.W.mg_none_of X G m_all),
    m_int := (PySem.W.mg_none_of X G m_int),
    m_isinstance := (PySem.W.mg_none_of X G m_isinstance),
    m_len := (PySem.W.mg_none_of X G m_len),
    m_list := (PySem.W.mg_none_of X G m_list),
    m_max := (PySem.W.mg_none_of X G m_max),
    m_min := (PySem.W.mg_none_of X G m_min),
    m_range := (PySem.W.mg_none_of X G m_range),
    m_repr := (PySem.W.mg_none_of X G m_repr),
    m_sorted := (PySem.W.mg_none_of X G m_sorted),
    m_str := (PySem.W.mg_none_of X G m_str),
    m_tuple := (PySem.W.mg_none_of X G m_tuple) }
  exact ⟨m_law A, fun bs _ _ => ok_law (T bs), fun ns _ => sp_law A ns⟩
end K2
set_option Elab.async false
set_option linter.all false
open PySem PySem.W PyProof.Rows
set_option maxRecDepth 100000 in
set_option maxHeartbeats 0 in
theorem PySem.Challenge.cw_linkfarms_k02_paths_made_and_ordered_holds : PySem.Challenge.rw_linkfarms_k02_paths_made_and_ordered.Holds := by
  w_on; o_law; k_head; (case hw => w_witness2)
  k_fill
  refine DL.end_walk (l := PySem.Challenge.rw_linkfarms_k02_paths_made_and_ordered) (n := 63) (k := 7) rfl (by decide) rfl ⟨rfl, by decide, by decide⟩ (fun w h Y => PySem.W.kIn_of Y) ?no_lists ?all_facts
  case no_lists =>
    intro p
    kernel_rfl
  case all_facts =>
    intro w mg fa h KX G hmg
    refine' K2.all_mk KX G hmg ?a_is_name ?l_is_name ?c_is_name ?k_is_name ?a_is_path ?l_is_path ?c_is_path ?k_is_path ?a_look_path ?l_look_path ?c_look_path ?k_look_path ?a_names_in ?l_names_in ?c_names_in ?k_names_in ?a_names_of ?l_names_of ?c_names_of ?k_names_of ?a_path_of ?l_path_of ?c_path_of ?k_path_of ?a_parent_in ?l_parent_in ?c_parent_in ?k_parent_in ?a_parent ?l_parent ?c_parent ?k_parent ?a_path_key ?l_path_key ?c_path_key ?k_path_key ?a_in_order ?l_in_order ?c_in_order ?k_in_order ?a__law_bag ?l__law_bag ?c__law_bag ?k__law_bag ?a__law_take ?l__law_take ?c__law_take ?k__law_take ?a__law_pick ?l__law_pick ?c__law_pick ?k__law_pick ?a__law_words ?l__law_words ?c__law_words ?k__law_words ?a__law_path ?l__law_path ?c__law_path ?k__law_path ?a__law_made ?l__law_made ?c__law_made ?k__law_made ?a__law_made_right ?l__law_made_right ?c__law_made_right ?k__law_made_right ?a__law_path_right ?l__law_path_right ?c__law_path_right ?k__law_path_right ?a__law_before ?l__law_before ?c__law_before ?k__law_before ?a__law_order_right ?l__law_order_right ?c__law_order_right ?k__law_order_right ?a_law ?l_law ?c_law ?k_law ?a_LETTERS ?a_MOST_LETTERS ?a_ROOT ?a_BadPath ?x_BadPath ?sa_BadPath ?ga_BadPath ?gg_BadPath ?n_BadPath_path ?i1_BadPath ?i2_BadPath ?i3_BadPath ?i4_BadPath ?i5_BadPath ?k1_BadPath ?k2_BadPath ?k3_BadPath ?k4_BadPath ?e1_BadPath ?e2_BadPath ?e3_BadPath ?a_BadName ?x_BadName ?sa_BadName ?ga_BadName ?gg_BadName ?n_BadName_name ?i1_BadName ?i2_BadName ?i3_BadName ?i4_BadName ?i5_BadName ?k1_BadName ?k2_BadName ?k3_BadName ?k4_BadName ?e1_BadName ?e2_BadName ?e3_BadName ?a_BadEntry ?x_BadEntry ?sa_BadEntry ?ga_BadEntry ?gg_BadEntry ?n_BadEntry_path ?i1_BadEntry ?i2_BadEntry ?i3_BadEntry ?i4_BadEntry ?i5_BadEntry ?k1_BadEntry ?k2_BadEntry ?k3_BadEntry ?k4_BadEntry ?e1_BadEntry ?e2_BadEntry ?e3_BadEntry ?zz1 ?zz2 ?zz0 ?zz3 ?xi_BadName_ValueError ?xi_BadName_BadPath_BadEntry ?m_ValueError ?m_abs ?m_all ?m_int ?m_isinstance ?m_len ?m_list ?m_max ?m_min ?m_range ?m_repr ?m_sorted ?m_str ?m_tuple
    (case a_is_name => k_is)
    (case l_is_name => k_is)
    (case c_is_name => k_is)
    (case k_is_name => k_is)
    (case a_is_path => k_is)
    (case l_is_path => k_is)
    (case c_is_path => k_is)
    (case k_is_path => k_is)
    (case a_look_path => k_is)
    (case l_look_path => k_is)
    (case c_look_path => k_is)
    (case k_look_path => k_is)
    (case a_names_in => k_is)
    (case l_names_in => k_is)
    (case c_names_in => k_is)
    (case k_names_in => k_is)
    (case a_names_of => k_is)
    (case l_names_of => k_is)
    (case c_names_of => k_is)
    (case k_names_of => k_is)
    (case a_path_of => k_is)
    (case l_path_of => k_is)
    (case c_path_of => k_is)
    (case k_path_of => k_is)
    (case a_parent_in => k_is)
    (case l_parent_in => k_is)
    (case c_parent_in => k_is)
    (case k_parent_in => k_is)
    (case a_parent => k_is)
    (case l_parent => k_is)
    (case c_parent => k_is)
    (case k_parent => k_is)
    (case a_path_key => k_is)
    (case l_path_key => k_is)
    (case c_path_key => k_is)
    (case k_path_key => k_is)
    (case a_in_order => k_is)
    (case l_in_order => k_is)
    (case c_in_order => k_is)
    (case k_in_order => k_is)
    (case a__law_bag => k_is)
    (case l__law_bag => k_is)
    (case c__law_bag => k_is)
    (case k__law_bag => k_is)
    (case a__law_take => k_is)
    (case l__law_take => k_is)
    (case c__law_take => k_is)
    (case k__law_take => k_is)
    (case a__law_pick => k_is)
    (case l__law_pick => k_is)
    (case c__law_pick => k_is)
    (case k__law_pick => k_is)
    (case a__law_words => k_is)
    (case l__law_words => k_is)
    (case c__law_words => k_is)
    (case k__law_words => k_is)
    (case a__law_path => k_is)
    (case l__law_path => k_is)
    (case c__law_path => k_is)
    (case k__law_path => k_is)
    (case a__law_made => k_is)
    (case l__law_made => k_is)
    (case c__law_made => k_is)
    (case k__law_made => k_is)
    (case a__law_made_right => k_is)
    (case l__law_made_right => k_is)
    (case c__law_made_right => k_is)
    (case k__law_made_right => k_is)
    (case a__law_path_right => k_is)
    (case l__law_path_right => k_is)
    (case c__law_path_right => k_is)
    (case k__law_path_right => k_is)
    (case a__law_before => k_is)
    (case l__law_before => k_is)
    (case c__law_before => k_is)
    (case k__law_before => k_is)
    (case a__law_order_right => k_is)
    (case l__law_order_right => k_is)
    (case c__law_order_right => k_is)
    (case k__law_order_right => k_is)
    (case a_law => k_is)
    (case l_law => k_is)
    (case c_law => k_is)
    (case k_law => k_is)
    (case a_LETTERS => k_is)
    (case a_MOST_LETTERS => k_is)
    (case a_ROOT => k_is)
    (case a_BadPath => k_is)
    (case x_BadPath => k_is)
    (case sa_BadPath => k_is)
    (case ga_BadPath => k_is)
    (case gg_BadPath => k_is)
    (case n_BadPath_path => k_is)
    (case i1_BadPath => k_is)
    (case i2_BadPath => k_is)
    (case i3_BadPath => k_is)
    (case i4_BadPath => k_is)
    (case i5_BadPath => k_is)
    (case k1_BadPath => k_is)
    (case k2_BadPath => k_is)
    (case k3_BadPath => k_is)
    (case k4_BadPath => k_is)
    (case e1_BadPath => k_is)
    (case e2_BadPath => k_is)
    (case e3_BadPath => kernel_rfl)
    (case a_BadName => k_is)
    (case x_BadName => k_is)
    (case sa_BadName => k_is)
    (case ga_BadName => k_is)
    (case gg_BadName => k_is)
    (case n_BadName_name => k_is)
    (case i1_BadName => k_is)
    (case i2_BadName => k_is)
    (case i3_BadName => k_is)
    (case i4_BadName => k_is)
    (case i5_BadName => k_is)
    (case k1_BadName => k_is)
    (case k2_BadName => k_is)
    (case k3_BadName => k_is)
    (case k4_BadName => k_is)
    (case e1_BadName => k_is)
    (case e2_BadName => k_is)
    (case e3_BadName => kernel_rfl)
    (case a_BadEntry => k_is)
    (case x_BadEntry => k_is)
    (case sa_BadEntry => k_is)
    (case ga_BadEntry => k_is)
    (case gg_BadEntry => k_is)
    (case n_BadEntry_path => k_is)
    (case i1_BadEntry => k_is)
    (case i2_BadEntry => k_is)
    (case i3_BadEntry => k_is)
    (case i4_BadEntry => k_is)
    (case i5_BadEntry => k_is)
    (case k1_BadEntry => k_is)
    (case k2_BadEntry => k_is)
    (case k3_BadEntry => k_is)
    (case k4_BadEntry => k_is)
    (case e1_BadEntry => k_is)
    (case e2_BadEntry => k_is)
    (case e3_BadEntry => kernel_rfl)
    (case zz1 => k_is)
    (case zz2 => k_is)
    (case zz0 => k_is)
    (case zz3 => k_is)
    (case xi_BadName_ValueError => kernel_rfl)
    (case xi_BadName_BadPath_BadEntry => kernel_rfl)
    (case m_ValueError => k_is)
    (case m_abs => k_is)
    (case m_all => k_is)
    (case m_int => k_is)
    (case m_isinstance => k_is)
    (case m_len => k_is)
    (case m_list => k_is)
    (case m_max => k_is)
    (case m_min => k_is)
    (case m_range => k_is)
    (case m_repr => k_is)
    (case m_sorted => k_is)
    (case m_str => k_is)
    (case m_tuple => k_is)
