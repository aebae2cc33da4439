import PyProof.Rows.All
import Wide.All
import OpenK.AllK
import Wide.FinOn
import HandS.ForMost
import HandS.ForExc
import HandS.Zip
import HandS.Conv
import HandS.TupAny
import HandS.TupMul
import HandS.IsInst
import HandS.Deep
import HandS.Style
import HandS.SortInts
import KE.SortData
import HandS.Iter
import KE.GoesZip
import KE.GoesEnum
import KE.GoesMore
import HandS.Exc
import HandS.ExcOwn
import HandS.TryOnly
import HandS.TryMany
import HandS.ExcField
import HandS.WordsExc
import HandS.ExcIs
import KE.KTupSum
import KE.KExcSuper
import HandS.ExcInit
import KE.KExcIs
import PySem.Challenge.RW_algebraparts_k00_numbers
set_option Elab.async false
set_option linter.all false
set_option maxRecDepth 100000
set_option maxHeartbeats 4000000
/-! Dl: a layer of data over HandS: what a def's names hold as plain data, lists of its own that it changes, what each construct makes of that. -/
namespace Dl
open PySem PySem.Spec PyProof.Rows L2

abbrev Sg := L2.St

inductive D where
  | non
  | bl (b : Bool)
  | int (i : Int)
  | str (x : Str)
  | lst (ds : List D)
  | sls (ds : List D)
  | tup (ds : List D)
  | raw (v : V)
  | ins (C : Addr) (fs : List (Str × D))

/-! ### heaps with some places hidden -/
def hid (M : List Addr) (H : Hp) : Hp := fun a => if a ∈ M then none else H a
theorem hid_in {M : List Addr} {H : Hp} {a : Addr} (h : a ∈ M) : hid M H a = none := by unfold hid; rw [if_pos h]
theorem hid_out {M : List Addr} {H : Hp} {a : Addr} (h : a ∉ M) : hid M H a = H a := by unfold hid; rw [if_neg h]
theorem hid_some {M : List Addr} {H : Hp} {a : Addr} {o : HO} (h : hid M H a = some o) : a ∉ M ∧ H a = some o := by
  by_cases e : a ∈ M
  · rw [hid_in e] at h; cases h
  · rw [hid_out e] at h; exact ⟨e, h⟩
theorem hid_same {M : List Addr} {H : Hp} : Same (hid M H) H := fun a o h => (hid_some h).2
theorem hid_mono {M : List Addr} {H H' : Hp} (e : Same H H') : Same (hid M H) (hid M H') := fun a o h => by
  obtain ⟨h1, h2⟩ := hid_some h
  rw [hid_out h1]
  exact e a o h2
theorem hid_sub {M M' : List Addr} {H : Hp} (e : ∀ a ∈ M, a ∈ M') : Same (hid M' H) (hid M H) := fun a o h => by
  obtain ⟨h1, h2⟩ := hid_some h
  rw [hid_out fun z => h1 (e a z)]
  exact h2
theorem hid_nil {H : Hp} : hid [] H = H := by
  funext a
  exact hid_out (by simp)
theorem hid_upd {M : List Addr} {H : Hp} {a : Addr} {o : HO} (h : a ∈ M) : hid M (upd H a o) = hid M H := by
  funext b
  by_cases e : b ∈ M
  · rw [hid_in e, hid_in e]
  · rw [hid_out e, hid_out e, upd_ne (fun z => e (by rw [z]; exact h))]
theorem hid_new {M : List Addr} {H : Hp} {a : Addr} {o : HO} (h : H a = none) : hid (a :: M) (upd H a o) = hid M H := by
  funext b
  by_cases e : b = a
  · rw [e, hid_in List.mem_cons_self]
    by_cases e2 : a ∈ M
    · rw [hid_in e2]
    · rw [hid_out e2, h]
  · by_cases e2 : b ∈ M
    · rw [hid_in (List.mem_cons_of_mem _ e2), hid_in e2]
    · rw [hid_out e2, hid_out (by simp only [List.mem_cons, not_or]; exact ⟨e, e2⟩), upd_ne e]
theorem same_new {H : Hp} {p : Addr} {o : HO} (h : H p = none) : Same H (upd H p o) := fun a u e => by
  rw [upd_ne (ne_of_none e h)]
  exact e
theorem same_mut {H H' : Hp} {p : Addr} {o : HO} (e : Same H H') (h : H p = none) : Same H (upd H' p o) := fun a u ha => by
  rw [upd_ne (ne_of_none ha h)]
  exact e a u ha
theorem same_rd {H H' : Hp} {a : Addr} {u : HO} (e : Same H H') (h : Rd H a u) : Rd H' a u := by
  rcases h with h | ⟨o, h⟩
  · exact .inl (e a _ h)
  · exact .inr ⟨o, e a _ h⟩
theorem same_l {K : PySem.W.Frag} {H H' : Hp} {a : Addr} {xs : List V} (e : Same H H') (h : SqL K H a xs) : SqL K H' a xs := by
  rcases h with h | h
  · exact .inl (same_rd e h)
  · exact .inr h
theorem same_t {K : PySem.W.Frag} {H H' : Hp} {a : Addr} {xs : List V} (e : Same H H') (h : SqT K H a xs) : SqT K H' a xs := by
  rcases h with h | h
  · exact .inl (same_rd e h)
  · exact .inr h

/-! ### data at a value -/
mutual
inductive At (K : PySem.W.Frag) (H : Hp) : V → D → Prop
  | non : At K H .non .non
  | bl (b : Bool) : At K H (.bl b) (.bl b)
  | int (i : Int) : At K H (.int i) (.int i)
  | str (x : Str) : At K H (.str x) (.str x)
  | lst {a : Addr} {xs : List V} {ds : List D} : H a = some (.lst xs) → Ats K H xs ds → At K H (.ref a) (.lst ds)
  | sls {a : Addr} {xs : List V} {ds : List D} : SqL K H a xs → Ats K H xs ds → At K H (.ref a) (.sls ds)
  | raw (v : V) : At K H v (.raw v)
  | tup {a : Addr} {xs : List V} {ds : List D} : SqT K H a xs → Ats K H xs ds → At K H (.ref a) (.tup ds)
  | ins {a C dx : Addr} {fs : List (Str × V)} {gs : List (Str × D)} : H a = some (.ins C dx fs) → H dx = some (.own a) → AtF K H fs gs → At K H (.ref a) (.ins C gs)
inductive Ats (K : PySem.W.Frag) (H : Hp) : List V → List D → Prop
  | nil : Ats K H [] []
  | cons {v : V} {vs : List V} {d : D} {ds : List D} : At K H v d → Ats K H vs ds → Ats K H (v :: vs) (d :: ds)
inductive AtF (K : PySem.W.Frag) (H : Hp) : List (Str × V) → List (Str × D) → Prop
  | nil : AtF K H [] []
  | cons {x : Str} {v : V} {vs : List (Str × V)} {d : D} {ds : List (Str × D)} : At K H v d → AtF K H vs ds → AtF K H ((x, v) :: vs) ((x, d) :: ds)
end
section
variable {K : PySem.W.Frag} {H H' : Hp}
mutual
theorem At.mono (e : Same H H') : ∀ {v : V} {d : D}, At K H v d → At K H' v d
  | _, _, .non => .non
  | _, _, .bl b => .bl b
  | _, _, .int i => .int i
  | _, _, .str x => .str x
  | _, _, .lst h hs => .lst (e _ _ h) (Ats.mono e hs)
  | _, _, .sls h hs => .sls (same_l e h) (Ats.mono e hs)
  | _, _, .raw v => .raw v
  | _, _, .tup h hs => .tup (same_t e h) (Ats.mono e hs)
  | _, _, .ins h h2 hs => .ins (e _ _ h) (e _ _ h2) (AtF.mono e hs)
theorem Ats.mono (e : Same H H') : ∀ {vs : List V} {ds : List D}, Ats K H vs ds → Ats K H' vs ds
  | _, _, .nil => .nil
  | _, _, .cons h hs => .cons (At.mono e h) (Ats.mono e hs)
theorem AtF.mono (e : Same H H') : ∀ {vs : List (Str × V)} {ds : List (Str × D)}, AtF K H vs ds → AtF K H' vs ds
  | _, _, .nil => .nil
  | _, _, .cons h hs => .cons (At.mono e h) (AtF.mono e hs)
end
theorem Ats.length : ∀ {vs : List V} {ds : List D}, Ats K H vs ds → vs.length = ds.length
  | _, _, .nil => rfl
  | _, _, .cons _ h => congrArg (· + 1) h.length
theorem Ats.get : ∀ {vs : List V} {ds : List D} {i : Nat} {d : D}, Ats K H vs ds → ds[i]? = some d → ∃ v, vs[i]? = some v ∧ At K H v d
  | _, _, _, _, .nil, e => by simp at e
  | _, _, 0, _, .cons r _, e => by simp at e; subst e; exact ⟨_, rfl, r⟩
  | _, _, i + 1, d, .cons _ t, e => by
    obtain ⟨v, h1, h2⟩ := Ats.get (i := i) (d := d) t (by simpa using e)
    exact ⟨v, by simpa using h1, h2⟩
theorem Ats.getV : ∀ {vs : List V} {ds : List D} {i : Nat} {v : V}, Ats K H vs ds → vs[i]? = some v → ∃ d, ds[i]? = some d ∧ At K H v d
  | _, _, _, _, .nil, e => by simp at e
  | _, _, 0, _, .cons r _, e => by simp at e; subst e; exact ⟨_, rfl, r⟩
  | _, _, i + 1, v, .cons _ t, e => by
    obtain ⟨d, h1, h2⟩ := Ats.getV (i := i) (v := v) t (by simpa using e)
    exact ⟨d, by simpa using h1, h2⟩
theorem Ats.append : ∀ {vs ws : List V} {ds es : List D}, Ats K H vs ds → Ats K H ws es → Ats K H (vs ++ ws) (ds ++ es)
  | _, _, _, _, .nil, h => h
  | _, _, _, _, .cons a b, h => .cons a (Ats.append b h)
theorem Ats.set : ∀ {vs : List V} {ds : List D} {v : V} {d : D} (i : Nat), Ats K H vs ds → At K H v d → Ats K H (vs.set i v) (ds.set i d)
  | _, _, _, _, _, .nil, _ => .nil
  | _, _, _, _, 0, .cons _ b, h => .cons h b
  | _, _, _, _, i + 1, .cons a b, h => .cons a (Ats.set i b h)
theorem Ats.take : ∀ {vs : List V} {ds : List D} (n : Nat), Ats K H vs ds → Ats K H (vs.take n) (ds.take n)
  | _, _, 0, _ => .nil
  | _, _, _ + 1, .nil => .nil
  | _, _, n + 1, .cons a b => .cons a (Ats.take n b)
theorem Ats.drop : ∀ {vs : List V} {ds : List D} (n : Nat), Ats K H vs ds → Ats K H (vs.drop n) (ds.drop n)
  | _, _, 0, h => h
  | _, _, _ + 1, .nil => .nil
  | _, _, n + 1, .cons _ b => Ats.drop n b
theorem Ats.eraseIdx : ∀ {vs : List V} {ds : List D} (n : Nat), Ats K H vs ds → Ats K H (vs.eraseIdx n) (ds.eraseIdx n)
  | _, _, _, .nil => .nil
  | _, _, 0, .cons _ b => b
  | _, _, n + 1, .cons a b => .cons a (Ats.eraseIdx n b)
theorem Ats.reverse : ∀ {vs : List V} {ds : List D}, Ats K H vs ds → Ats K H vs.reverse ds.reverse
  | _, _, .nil => .nil
  | _, _, .cons a b => by
    rw [List.reverse_cons, List.reverse_cons]
    exact Ats.append (Ats.reverse b) (.cons a .nil)
theorem Ats.rep {v : V} {d : D} (h : At K H v d) : ∀ n : Nat, Ats K H (List.replicate n v) (List.replicate n d)
  | 0 => .nil
  | n + 1 => .cons h (Ats.rep h n)
theorem Ats.ints : ∀ {vs : List V} {ns : List Int}, Ats K H vs (ns.map D.int) → vs = ns.map V.int
  | vs, [], h => by cases h; rfl
  | vs, n :: ns, h => by
    cases h with
    | cons a b =>
      cases a
      rw [Ats.ints b]
      rfl
theorem Ats.ofInts : ∀ ns : List Int, Ats K H (ns.map V.int) (ns.map D.int)
  | [] => .nil
  | n :: ns => .cons (.int n) (Ats.ofInts ns)
theorem Ats.ofBools : ∀ ns : List Bool, Ats K H (ns.map V.bl) (ns.map D.bl)
  | [] => .nil
  | n :: ns => .cons (.bl n) (Ats.ofBools ns)
theorem AtF.lookup {f : Str} : ∀ {vs : List (Str × V)} {ds : List (Str × D)} {d : D}, AtF K H vs ds → ds.lookup f = some d → ∃ v, vs.lookup f = some v ∧ At K H v d
  | _, _, _, .nil, e => by simp [List.lookup] at e
  | _, _, d, .cons (x := x) a b, e => by
    unfold List.lookup at e ⊢
    cases q : (f == x) with
    | true =>
      rw [q] at e
      cases e
      exact ⟨_, rfl, a⟩
    | false =>
      rw [q] at e
      exact AtF.lookup b e
theorem AtF.none {f : Str} : ∀ {vs : List (Str × V)} {ds : List (Str × D)}, AtF K H vs ds → ds.lookup f = Option.none → vs.lookup f = Option.none
  | _, _, .nil, e => by simp [List.lookup]
  | _, _, .cons (x := x) a b, e => by
    unfold List.lookup at e ⊢
    cases q : (f == x) with
    | true =>
      rw [q] at e
      cases e
    | false =>
      rw [q] at e
      exact AtF.none b e
end

/-! ### what the names hold -/
inductive Kd where
  | any
  | dat (d : D)
  | own (φ : List D → Prop)
  | bor (φ : List D → Prop)
  | nst (φ : List (List D) → Prop)
/-- the frame: what is written, what stood at the entry, what stays seen, what is hidden by the caller -/
structure Fm where
  K : PySem.W.Frag
  B : Hp
  G : Hp
  M0 : List Addr
/-- a slot's list that this def may change -/
def Has (F : Fm) (M : List Addr) (H : Hp) (x : Option (Option V)) (p : Addr) (φ : List D → Prop) : Prop :=
  x = some (some (.ref p)) ∧ p ∈ M ∧ F.B p = none ∧ ∃ vs ds, H p = some (.lst vs) ∧ Ats F.K (hid M H) vs ds ∧ φ ds
def isM : Kd → Bool
  | .own _ => true
  | .bor _ => true
  | _ => false
/-- kinds of lists that may change -/
def isT : Kd → Bool
  | .own _ => true
  | .bor _ => true
  | .nst _ => true
  | _ => false
theorem isT_of {k : Kd} (h : isM k = true) : isT k = true := by cases k <;> first | rfl | cases h
/-- the lists that may change -/
def OwnA (ks : List Kd) (σ : Sg) (a : Addr) : Prop := ∃ (i : Nat) (k : Kd), ks[i]? = some k ∧ isM k = true ∧ σ[i]? = some (some (.ref a))
/-- lists of lists that may change, with their items -/
inductive Rows (K : PySem.W.Frag) (M : List Addr) (H : Hp) : List Addr → List (List D) → Prop
  | nil : Rows K M H [] []
  | cons {q : Addr} {qs : List Addr} {vs : List V} {r : List D} {rs : List (List D)} : H q = some (.lst vs) → Ats K (hid M H) vs r → Rows K M H qs rs → Rows K M H (q :: qs) (r :: rs)
theorem Rows.to {K : PySem.W.Frag} {M M' : List Addr} {H H' : Hp} {qs : List Addr} {rs : List (List D)} (h : Rows K M H qs rs) (k : ∀ a ∈ qs, ∀ o, H a = some o → H' a = some o) (s : Same (hid M H) (hid M' H')) : Rows K M' H' qs rs := by
  induction h with
  | nil => exact .nil
  | cons h1 h2 _ ih => exact .cons (k _ List.mem_cons_self _ h1) (h2.mono s) (ih fun a ha => k a (List.mem_cons_of_mem _ ha))
theorem Rows.live {K : PySem.W.Frag} {M : List Addr} {H : Hp} {qs : List Addr} {rs : List (List D)} (h : Rows K M H qs rs) : ∀ a ∈ qs, ∃ o, H a = some o := by
  induction h with
  | nil => exact fun a h => nomatch h
  | cons h1 _ _ ih =>
    intro a ha
    rcases List.mem_cons.mp ha with e | e
    · exact ⟨_, by rw [e]; exact h1⟩
    · exact ih a e
theorem Rows.length {K : PySem.W.Frag} {M : List Addr} {H : Hp} {qs : List Addr} {rs : List (List D)} (h : Rows K M H qs rs) : qs.length = rs.length := by
  induction h with
  | nil => rfl
  | cons _ _ _ ih => rw [List.length_cons, List.length_cons, ih]
structure Nes (F : Fm) (M : List Addr) (H : Hp) (x : Option (Option V)) (p : Addr) (qs : List Addr) (φ : List (List D) → Prop) : Prop where
  at_ : x = some (some (.ref p))
  nd : (p :: qs).Nodup
  mem : ∀ a ∈ p :: qs, a ∈ M ∧ a ∉ F.M0 ∧ F.B a = none
  top : H p = some (.lst (qs.map V.ref))
  rows : ∃ rows, Rows F.K M H qs rows ∧ φ rows
theorem Nes.live {F : Fm} {M : List Addr} {H : Hp} {x : Option (Option V)} {p : Addr} {qs : List Addr} {φ : List (List D) → Prop} (n : Nes F M H x p qs φ) : ∀ a ∈ p :: qs, ∃ o, H a = some o := fun a ha => by
  obtain ⟨rs, h1, _⟩ := n.rows
  rcases List.mem_cons.mp ha with e | e
  · exact ⟨_, by rw [e]; exact n.top⟩
  · exact h1.live a e
theorem Nes.to {F F' : Fm} {M M' : List Addr} {H H' : Hp} {x x' : Option (Option V)} {p : Addr} {qs : List Addr} {φ ψ : List (List D) → Prop} (n : Nes F M H x p qs φ) (hK : F'.K = F.K) (hx : x' = x) (hm : ∀ a ∈ p :: qs, a ∈ M' ∧ a ∉ F'.M0 ∧ F'.B a = none) (k : ∀ a ∈ p :: qs, ∀ o, H a = some o → H' a = some o)
    (s : Same (hid M H) (hid M' H')) (w : ∀ r, φ r → ψ r) : Nes F' M' H' x' p qs ψ := by
  obtain ⟨rs, h1, h2⟩ := n.rows
  exact ⟨hx.trans n.at_, n.nd, hm, k _ List.mem_cons_self _ n.top, rs, by rw [hK]; exact h1.to (fun a ha => k a (List.mem_cons_of_mem _ ha)) s, w _ h2⟩
def NstA (ks : List Kd) (σ : Sg) (H : Hp) (a : Addr) : Prop := ∃ (i : Nat) (φ : List (List D) → Prop) (p : Addr) (qs : List Addr), ks[i]? = some (.nst φ) ∧ σ[i]? = some (some (.ref p)) ∧ H p = some (.lst (qs.map V.ref)) ∧ a ∈ p :: qs
structure Ok (F : Fm) (ks : List Kd) (M : List Addr) (σ : Sg) (H : Hp) : Prop where
  len : σ.length = ks.length
  dat : ∀ (i : Nat) (d : D), ks[i]? = some (.dat d) → ∃ v, σ[i]? = some (some v) ∧ At F.K (hid M H) v d
  own : ∀ (i : Nat) (φ : List D → Prop), ks[i]? = some (.own φ) → ∃ p, p ∉ F.M0 ∧ Has F M H σ[i]? p φ
  bor : ∀ (i : Nat) (φ : List D → Prop), ks[i]? = some (.bor φ) → ∃ p, p ∈ F.M0 ∧ Has F M H σ[i]? p φ
  inj : ∀ (i j : Nat) (k l : Kd) (p : Addr), ks[i]? = some k → ks[j]? = some l → isM k = true → isM l = true → σ[i]? = some (some (.ref p)) → σ[j]? = some (some (.ref p)) → i = j
  nst : ∀ (i : Nat) (φ : List (List D) → Prop), ks[i]? = some (.nst φ) → ∃ p qs, Nes F M H σ[i]? p qs φ ∧ ∀ a ∈ p :: qs, ¬ OwnA ks σ a
  one : ∀ (i j : Nat) (φ ψ : List (List D) → Prop), ks[i]? = some (.nst φ) → ks[j]? = some (.nst ψ) → i = j
  base : Same F.B H
  vis : Same F.G (hid M H)
  sup : ∀ a ∈ F.M0, a ∈ M
  live : ∀ a ∈ M, ∃ o, H a = some o
def Step (ks : List Kd) (σ : Sg) (H H' : Hp) : Prop := ∀ a o, H a = some o → ¬ OwnA ks σ a → H' a = some o
section
variable {F : Fm} {ks : List Kd} {M : List Addr} {σ : Sg} {H H' H1 H2 : Hp}
theorem Step.refl : Step ks σ H H := fun _ _ h _ => h
theorem Step.trans (a : Step ks σ H H1) (b : Step ks σ H1 H2) : Step ks σ H H2 := fun x o h n => b x o (a x o h n) n
theorem Step.of (e : Same H H') : Step ks σ H H' := fun a o h _ => e a o h
theorem Has.same (e : Same H H') {x : Option (Option V)} {p : Addr} {φ : List D → Prop} (h : Has F M H x p φ) : Has F M H' x p φ := by
  obtain ⟨h1, h2, h3, vs, ds, h4, h5, h6⟩ := h
  exact ⟨h1, h2, h3, vs, ds, e _ _ h4, h5.mono (hid_mono e), h6⟩
theorem Has.imp {x : Option (Option V)} {p : Addr} {φ ψ : List D → Prop} (h : Has F M H x p φ) (q : ∀ ds, φ ds → ψ ds) : Has F M H x p ψ := by
  obtain ⟨h1, h2, h3, vs, ds, h4, h5, h6⟩ := h
  exact ⟨h1, h2, h3, vs, ds, h4, h5, q _ h6⟩
theorem Ok.same (o : Ok F ks M σ H) (e : Same H H') : Ok F ks M σ H' where
  len := o.len
  dat := fun i d h => by
    obtain ⟨v, h1, h2⟩ := o.dat i d h
    exact ⟨v, h1, h2.mono (hid_mono e)⟩
  own := fun i φ h => by
    obtain ⟨p, h1, h2⟩ := o.own i φ h
    exact ⟨p, h1, h2.same e⟩
  bor := fun i φ h => by
    obtain ⟨p, h1, h2⟩ := o.bor i φ h
    exact ⟨p, h1, h2.same e⟩
  inj := o.inj
  nst := fun i φ h => by
    obtain ⟨p, qs, h1, h2⟩ := o.nst i φ h
    exact ⟨p, qs, h1.to rfl rfl h1.mem (fun a _ o h => e a o h) (hid_mono e) (fun _ r => r), h2⟩
  one := o.one
  base := o.base.trans e
  vis := o.vis.trans (hid_mono e)
  sup := o.sup
  live := fun a h => by
    obtain ⟨u, h1⟩ := o.live a h
    exact ⟨u, e _ _ h1⟩
theorem Ok.fresh (o : Ok F ks M σ H) {p : Addr} (h : H p = none) : p ∉ M := fun z => by
  obtain ⟨u, h1⟩ := o.live p z
  rw [h] at h1
  cases h1
theorem Ok.mAt (o : Ok F ks M σ H) {i : Nat} {k : Kd} (h : ks[i]? = some k) (m : isM k = true) : ∃ p φ, Has F M H σ[i]? p φ := by
  cases k with
  | any => cases m
  | dat d => cases m
  | nst φ => cases m
  | own φ =>
    obtain ⟨p, _, h1⟩ := o.own i φ h
    exact ⟨p, φ, h1⟩
  | bor φ =>
    obtain ⟨p, _, h1⟩ := o.bor i φ h
    exact ⟨p, φ, h1⟩
theorem Ok.ownM (o : Ok F ks M σ H) {a : Addr} (h : OwnA ks σ a) : a ∈ M := by
  obtain ⟨i, k, h1, h2, h3⟩ := h
  obtain ⟨p, φ, q1, q2, _⟩ := o.mAt h1 h2
  rw [h3] at q1
  cases q1
  exact q2
theorem Ok.hidStep (o : Ok F ks M σ H) (s : Step ks σ H H') : Same (hid M H) (hid M H') := fun a u h => by
  obtain ⟨h1, h2⟩ := hid_some h
  rw [hid_out h1]
  exact s a u h2 fun z => h1 (o.ownM z)
/-- places of a list of lists -/
theorem Ok.nstIn (o : Ok F ks M σ H) {a : Addr} (h : NstA ks σ H a) : ∃ (i : Nat) (φ : List (List D) → Prop) (p : Addr) (qs : List Addr), ks[i]? = some (.nst φ) ∧ Nes F M H σ[i]? p qs φ ∧ a ∈ p :: qs ∧ ¬ OwnA ks σ a := by
  obtain ⟨i, φ, p, qs, h1, h2, h3, h4⟩ := h
  obtain ⟨p', qs', g1, g2⟩ := o.nst i φ h1
  have e := g1.at_
  rw [h2] at e
  cases e
  have t := g1.top
  rw [h3] at t
  cases (List.map_inj_right (f := V.ref) (fun a b z => V.ref.inj z)).mp (HO.lst.inj (Option.some.inj t))
  exact ⟨i, φ, p, qs, h1, g1, h4, g2 a h4⟩
theorem Ok.nstSome (o : Ok F ks M σ H) {a : Addr} (h : NstA ks σ H a) : a ∈ M ∧ (∃ u, H a = some u) ∧ F.B a = none ∧ a ∉ F.M0 ∧ ¬ OwnA ks σ a := by
  obtain ⟨i, φ, p, qs, h1, h2, h3, h4⟩ := o.nstIn h
  obtain ⟨g1, g2, g3⟩ := h2.mem a h3
  exact ⟨g1, h2.live a h3, g3, g2, h4⟩
theorem Ok.noNst (o : Ok F ks M σ H) {p : Addr} (h : H p = none) : ¬ NstA ks σ H p := fun z => by
  obtain ⟨_, ⟨u, e⟩, _⟩ := o.nstSome z
  rw [h] at e
  cases e
/-- the same places behind a step -/
theorem Ok.nstBack (o : Ok F ks M σ H) (s : Step ks σ H H') {a : Addr} (h : NstA ks σ H' a) : NstA ks σ H a := by
  obtain ⟨i, φ, p, qs, h1, h2, h3, h4⟩ := h
  obtain ⟨p', qs', g1, g2⟩ := o.nst i φ h1
  have e := g1.at_
  rw [h2] at e
  cases e
  have t := s _ _ g1.top (g2 p List.mem_cons_self)
  rw [h3] at t
  cases (List.map_inj_right (f := V.ref) (fun a b z => V.ref.inj z)).mp (HO.lst.inj (Option.some.inj t))
  exact ⟨i, φ, p, qs, h1, h2, g1.top, h4⟩
theorem Ok.nstFresh (o : Ok F ks M σ H) (s : Step ks σ H H') {p : Addr} (h : H p = none) : ¬ NstA ks σ H' p := fun z => o.noNst h (o.nstBack s z)
theorem Nes.nstA {i : Nat} {φ : List (List D) → Prop} {p : Addr} {qs : List Addr} (h : ks[i]? = some (.nst φ)) (n : Nes F M H σ[i]? p qs φ) {a : Addr} (ha : a ∈ p :: qs) : NstA ks σ H a := ⟨i, φ, p, qs, h, n.at_, n.top, ha⟩
/-- a place that is not ours is hidden too -/
theorem Ok.hide (o : Ok F ks M σ H) {p : Addr} {u : HO} (h : H p = none) : Ok F ks (p :: M) σ (upd H p u) where
  len := o.len
  dat := fun i d e => by
    rw [hid_new h]
    exact o.dat i d e
  own := fun i φ e => by
    obtain ⟨q, h1, h2, h3, h4, vs, ds, h5, h6, h7⟩ := o.own i φ e
    exact ⟨q, h1, h2, List.mem_cons_of_mem _ h3, h4, vs, ds, same_new h _ _ h5, by rw [hid_new h]; exact h6, h7⟩
  bor := fun i φ e => by
    obtain ⟨q, h1, h2, h3, h4, vs, ds, h5, h6, h7⟩ := o.bor i φ e
    exact ⟨q, h1, h2, List.mem_cons_of_mem _ h3, h4, vs, ds, same_new h _ _ h5, by rw [hid_new h]; exact h6, h7⟩
  inj := o.inj
  nst := fun i φ e => by
    obtain ⟨q, qs, h1, h2⟩ := o.nst i φ e
    exact ⟨q, qs, h1.to rfl rfl (fun a ha => ⟨List.mem_cons_of_mem _ (h1.mem a ha).1, (h1.mem a ha).2⟩) (fun a _ o h1 => same_new h a o h1) (by rw [hid_new h]; exact Same.refl _) (fun _ r => r), h2⟩
  one := o.one
  base := o.base.trans (same_new h)
  vis := by rw [hid_new h]; exact o.vis
  sup := fun a z => List.mem_cons_of_mem _ (o.sup a z)
  live := fun a z => by
    rcases List.mem_cons.mp z with e | e
    · exact ⟨u, by rw [e, upd_same]⟩
    · obtain ⟨w, h1⟩ := o.live a e
      exact ⟨w, same_new h _ _ h1⟩
/-- a hidden place that is no slot's is written -/
theorem Ok.put (o : Ok F ks M σ H) {p : Addr} {u : HO} (h : p ∈ M) (hB : F.B p = none) (n : ¬ OwnA ks σ p) (nn : ¬ NstA ks σ H p) : Ok F ks M σ (upd H p u) where
  len := o.len
  dat := fun i d e => by
    rw [hid_upd h]
    exact o.dat i d e
  own := fun i φ e => by
    obtain ⟨q, h1, h2, h3, h4, vs, ds, h5, h6, h7⟩ := o.own i φ e
    exact ⟨q, h1, h2, h3, h4, vs, ds, by rw [upd_ne (fun z => n ⟨i, _, e, rfl, by rw [← z]; exact h2⟩)]; exact h5, by rw [hid_upd h]; exact h6, h7⟩
  bor := fun i φ e => by
    obtain ⟨q, h1, h2, h3, h4, vs, ds, h5, h6, h7⟩ := o.bor i φ e
    exact ⟨q, h1, h2, h3, h4, vs, ds, by rw [upd_ne (fun z => n ⟨i, _, e, rfl, by rw [← z]; exact h2⟩)]; exact h5, by rw [hid_upd h]; exact h6, h7⟩
  inj := o.inj
  nst := fun i φ e => by
    obtain ⟨q, qs, h1, h2⟩ := o.nst i φ e
    exact ⟨q, qs, h1.to rfl rfl h1.mem (fun a ha u g => by rw [upd_ne (fun z => nn (by rw [← z]; exact h1.nstA e ha))]; exact g) (by rw [hid_upd h]; exact Same.refl _) (fun _ r => r), h2⟩
  one := o.one
  base := same_mut o.base hB
  vis := by rw [hid_upd h]; exact o.vis
  sup := o.sup
  live := fun a z => by
    by_cases e : a = p
    · exact ⟨u, by rw [e, upd_same]⟩
    · rw [upd_ne e]
      exact o.live a z
/-- a hidden place that is no slot's is shown -/
theorem Ok.show (o : Ok F ks (p :: M) σ H) (n : ¬ OwnA ks σ p) (hp : p ∉ F.M0) (nn : ¬ NstA ks σ H p) : Ok F ks M σ H where
  len := o.len
  dat := fun i d e => by
    obtain ⟨v, h1, h2⟩ := o.dat i d e
    exact ⟨v, h1, h2.mono (hid_sub fun a z => List.mem_cons_of_mem _ z)⟩
  own := fun i φ e => by
    obtain ⟨q, h1, h2, h3, h4, vs, ds, h5, h6, h7⟩ := o.own i φ e
    refine ⟨q, h1, h2, ?_, h4, vs, ds, h5, h6.mono (hid_sub fun a z => List.mem_cons_of_mem _ z), h7⟩
    rcases List.mem_cons.mp h3 with z | z
    · exact absurd ⟨i, _, e, rfl, by rw [← z]; exact h2⟩ n
    · exact z
  bor := fun i φ e => by
    obtain ⟨q, h1, h2, h3, h4, vs, ds, h5, h6, h7⟩ := o.bor i φ e
    refine ⟨q, h1, h2, ?_, h4, vs, ds, h5, h6.mono (hid_sub fun a z => List.mem_cons_of_mem _ z), h7⟩
    rcases List.mem_cons.mp h3 with z | z
    · exact absurd ⟨i, _, e, rfl, by rw [← z]; exact h2⟩ n
    · exact z
  inj := o.inj
  nst := fun i φ e => by
    obtain ⟨q, qs, h1, h2⟩ := o.nst i φ e
    refine ⟨q, qs, h1.to rfl rfl (fun a ha => ⟨?_, (h1.mem a ha).2⟩) (fun a _ o h1 => h1) (hid_sub fun a z => List.mem_cons_of_mem _ z) (fun _ r => r), h2⟩
    rcases List.mem_cons.mp (h1.mem a ha).1 with z | z
    · exact absurd (by rw [← z]; exact h1.nstA e ha) nn
    · exact z
  one := o.one
  base := o.base
  vis := o.vis.trans (hid_sub fun a z => List.mem_cons_of_mem _ z)
  sup := fun a z => by
    rcases List.mem_cons.mp (o.sup a z) with e | e
    · exact absurd (by rw [← e]; exact z) hp
    · exact e
  live := fun a z => o.live a (List.mem_cons_of_mem _ z)
theorem Ok.baseNone (o : Ok F ks M σ H) {p : Addr} (h : H p = none) : F.B p = none := by
  cases e : F.B p with
  | none => rfl
  | some u =>
    rw [o.base _ _ e] at h
    cases h
theorem Ok.noOwn (o : Ok F ks M σ H) {p : Addr} (h : H p = none) : ¬ OwnA ks σ p := fun z => o.fresh h (o.ownM z)
end

/-! ### judgements -/
section
variable (F : Fm) (ks : List Kd)
/-- an expression gives a datum of R -/
def EvR (te : TE) (R : D → Prop) : Prop := ∀ M σ H, Ok F ks M σ H → ∀ Q : VK, (∀ v d H', Ok F ks M σ H' → Step ks σ H H' → At F.K (hid M H') v d → R d → Q v H') → te σ H Q
abbrev Ev (te : TE) (d : D) : Prop := EvR F ks te (fun x => x = d)
/-- a new list whose items are of R -/
def EvLR (te : TE) (R : List D → Prop) : Prop := ∀ M σ H, Ok F ks M σ H → ∀ Q : VK, (∀ p vs ds H', H p = none → Ok F ks (p :: M) σ H' → Step ks σ H H' → H' p = some (.lst vs) → Ats F.K (hid (p :: M) H') vs ds → R ds → Q (.ref p) H') → te σ H Q
abbrev EvL (te : TE) (ds : List D) : Prop := EvLR F ks te (fun x => x = ds)
def EvTR (tt : TT) (R : Bool → Prop) : Prop := ∀ M σ H, Ok F ks M σ H → ∀ Q : Bool → Hp → Prop, (∀ b H', Ok F ks M σ H' → Step ks σ H H' → R b → Q b H') → tt σ H Q
abbrev EvT (tt : TT) (b : Bool) : Prop := EvTR F ks tt (fun x => x = b)
def EvAR (ta : TA) (R : List D → Prop) : Prop := ∀ M σ H, Ok F ks M σ H → ∀ Q : List V → Hp → Prop, (∀ vs ds H', Ok F ks M σ H' → Step ks σ H H' → Ats F.K (hid M H') vs ds → R ds → Q vs H') → ta σ H Q
abbrev EvA (ta : TA) (ds : List D) : Prop := EvAR F ks ta (fun x => x = ds)
/-- an operation on values -/
def OpV (r : R2) (x y : D) (R : D → Prop) : Prop := ∀ M σ H, Ok F ks M σ H → ∀ v w, At F.K (hid M H) v x → At F.K (hid M H) w y → ∀ Q : VK, (∀ z d H', Ok F ks M σ H' → Step ks σ H H' → At F.K (hid M H') z d → R d → Q z H') → r v w H Q
def OpVL (r : R2) (x y : D) (R : List D → Prop) : Prop := ∀ M σ H, Ok F ks M σ H → ∀ v w, At F.K (hid M H) v x → At F.K (hid M H) w y → ∀ Q : VK, (∀ p vs ds H', H p = none → Ok F ks (p :: M) σ H' → Step ks σ H H' → H' p = some (.lst vs) → Ats F.K (hid (p :: M) H') vs ds → R ds → Q (.ref p) H') → r v w H Q
def UnV (r : V → Hp → VK → Prop) (x : D) (R : D → Prop) : Prop := ∀ M σ H, Ok F ks M σ H → ∀ v, At F.K (hid M H) v x → ∀ Q : VK, (∀ z d H', Ok F ks M σ H' → Step ks σ H H' → At F.K (hid M H') z d → R d → Q z H') → r v H Q
/-- a call on values -/
def CaV (r : List V → Hp → VK → Prop) (xs : List D) (R : D → Prop) : Prop := ∀ M σ H, Ok F ks M σ H → ∀ vs, Ats F.K (hid M H) vs xs → ∀ Q : VK, (∀ z d H', Ok F ks M σ H' → Step ks σ H H' → At F.K (hid M H') z d → R d → Q z H') → r vs H Q
def CaVL (r : List V → Hp → VK → Prop) (xs : List D) (R : List D → Prop) : Prop := ∀ M σ H, Ok F ks M σ H → ∀ vs, Ats F.K (hid M H) vs xs → ∀ Q : VK, (∀ p vs ds H', H p = none → Ok F ks (p :: M) σ H' → Step ks σ H H' → H' p = some (.lst vs) → Ats F.K (hid (p :: M) H') vs ds → R ds → Q (.ref p) H') → r vs H Q
/-- statements -/
def Cont (N : Sg → Hp → Prop) : Prop := ∀ M σ H, Ok F ks M σ H → N σ H
abbrev Run (t : TS) (E : Ends) : Prop := Cont F ks (t E)
end
end Dl
set_option Elab.async false
set_option linter.all false
set_option maxRecDepth 100000
set_option maxHeartbeats 4000000
/-! Dl2: expressions. -/
namespace Dl
open PySem PySem.Spec PyProof.Rows L2
section
variable {F : Fm} {ks : List Kd} {M : List Addr} {σ : Sg} {H H' : Hp}
theorem EvR.imp {te : TE} {R S : D → Prop} (h : EvR F ks te R) (i : ∀ d, R d → S d) : EvR F ks te S := fun M σ H o Q q => h M σ H o Q fun v d H' a b c r => q v d H' a b c (i d r)
theorem EvLR.imp {te : TE} {R S : List D → Prop} (h : EvLR F ks te R) (i : ∀ d, R d → S d) : EvLR F ks te S := fun M σ H o Q q => h M σ H o Q fun p v d H' a0 a b c e r => q p v d H' a0 a b c e (i d r)
theorem EvTR.imp {te : TT} {R S : Bool → Prop} (h : EvTR F ks te R) (i : ∀ d, R d → S d) : EvTR F ks te S := fun M σ H o Q q => h M σ H o Q fun b H' a c r => q b H' a c (i b r)
theorem Ev.to {te : TE} {d e : D} (h : Ev F ks te d) (i : d = e) : Ev F ks te e := by rw [← i]; exact h
theorem EvT.to {te : TT} {d e : Bool} (h : EvT F ks te d) (i : d = e) : EvT F ks te e := by rw [← i]; exact h
theorem EvL.to {te : TE} {d e : List D} (h : EvL F ks te d) (i : d = e) : EvL F ks te e := by rw [← i]; exact h
/-! names, constants -/
theorem ev_var {i : Nat} {d : D} (h : ks[i]? = some (.dat d)) : Ev F ks (tVar i) d := fun M σ H o Q q => by
  obtain ⟨v, h1, h2⟩ := o.dat i d h
  exact ⟨v, h1, q v d H o .refl h2 rfl⟩
theorem ev_int {i : Int} : Ev F ks (tC (.int i)) (.int i) := fun M σ H o Q q => q _ _ H o .refl (.int i) rfl
theorem ev_bl {b : Bool} : Ev F ks (tC (.bl b)) (.bl b) := fun M σ H o Q q => q _ _ H o .refl (.bl b) rfl
theorem ev_non : Ev F ks (tC .non) .non := fun M σ H o Q q => q _ _ H o .refl .non rfl
theorem ev_str {x : Str} : Ev F ks (tC (.str x)) (.str x) := fun M σ H o Q q => q _ _ H o .refl (.str x) rfl
theorem ev_raw {v : V} : Ev F ks (tC v) (.raw v) := fun M σ H o Q q => q _ _ H o .refl (.raw v) rfl
/-! operations -/
theorem ev_opR {r : R2} {ta tb : TE} {Ra Rb R : D → Prop} (ha : EvR F ks ta Ra) (hb : EvR F ks tb Rb) (hr : ∀ x y, Ra x → Rb y → OpV F ks r x y R) : EvR F ks (tOp r ta tb) R := fun M σ H o Q q =>
  ha M σ H o _ fun v x H1 o1 s1 a1 r1 => hb M σ H1 o1 _ fun w y H2 o2 s2 a2 r2 => hr x y r1 r2 M σ H2 o2 v w (a1.mono (o1.hidStep s2)) a2 Q fun z d H3 o3 s3 a3 r3 => q z d H3 o3 ((s1.trans s2).trans s3) a3 r3
theorem ev_op {r : R2} {ta tb : TE} {x y : D} {R : D → Prop} (ha : Ev F ks ta x) (hb : Ev F ks tb y) (hr : OpV F ks r x y R) : EvR F ks (tOp r ta tb) R := ev_opR ha hb fun a b e1 e2 => by rw [e1, e2]; exact hr
theorem ev_opLR {r : R2} {ta tb : TE} {Ra Rb : D → Prop} {R : List D → Prop} (ha : EvR F ks ta Ra) (hb : EvR F ks tb Rb) (hr : ∀ x y, Ra x → Rb y → OpVL F ks r x y R) : EvLR F ks (tOp r ta tb) R := fun M σ H o Q q =>
  ha M σ H o _ fun v x H1 o1 s1 a1 r1 => hb M σ H1 o1 _ fun w y H2 o2 s2 a2 r2 => hr x y r1 r2 M σ H2 o2 v w (a1.mono (o1.hidStep s2)) a2 Q fun p vs ds H3 n3 o3 s3 l3 a3 r3 =>
    q p vs ds H3 (by
      cases e : H p with
      | none => rfl
      | some u =>
        have n : ¬ OwnA ks σ p := o2.noOwn n3
        rw [s2 _ _ (s1 _ _ e n) n] at n3
        cases n3) o3 ((s1.trans s2).trans s3) l3 a3 r3
theorem ev_opL {r : R2} {ta tb : TE} {x y : D} {R : List D → Prop} (ha : Ev F ks ta x) (hb : Ev F ks tb y) (hr : OpVL F ks r x y R) : EvLR F ks (tOp r ta tb) R := ev_opLR ha hb fun a b e1 e2 => by rw [e1, e2]; exact hr
theorem ev_unR {r : V → Hp → VK → Prop} {ta : TE} {Ra R : D → Prop} (ha : EvR F ks ta Ra) (hr : ∀ x, Ra x → UnV F ks r x R) : EvR F ks (tUn r ta) R := fun M σ H o Q q =>
  ha M σ H o _ fun v x H1 o1 s1 a1 r1 => hr x r1 M σ H1 o1 v a1 Q fun z d H3 o3 s3 a3 r3 => q z d H3 o3 (s1.trans s3) a3 r3
theorem ev_un {r : V → Hp → VK → Prop} {ta : TE} {x : D} {R : D → Prop} (ha : Ev F ks ta x) (hr : UnV F ks r x R) : EvR F ks (tUn r ta) R := ev_unR ha fun a e => by rw [e]; exact hr
theorem opv_I0 {g : Int → Int → Int} {i j : Int} : OpV F ks (rI0 fun i j => .int (g i j)) (.int i) (.int j) (fun d => d = .int (g i j)) := fun M σ H o v w a b Q q => by
  cases a; cases b
  exact ⟨i, j, rfl, rfl, q _ _ H o .refl (.int _) rfl⟩
theorem opv_B0 {g : Int → Int → Bool} {i j : Int} : OpV F ks (rI0 fun i j => .bl (g i j)) (.int i) (.int j) (fun d => d = .bl (g i j)) := fun M σ H o v w a b Q q => by
  cases a; cases b
  exact ⟨i, j, rfl, rfl, q _ _ H o .refl (.bl _) rfl⟩
theorem opv_I {C : Int → Int → Prop} {g : Int → Int → Int} {i j : Int} (hc : C i j) : OpV F ks (rI C fun i j => .int (g i j)) (.int i) (.int j) (fun d => d = .int (g i j)) := fun M σ H o v w a b Q q => by
  cases a; cases b
  exact ⟨i, j, rfl, rfl, hc, q _ _ H o .refl (.int _) rfl⟩
theorem unv_I {g : Int → Int} {i : Int} : UnV F ks (rU fun i => .int (g i)) (.int i) (fun d => d = .int (g i)) := fun M σ H o v a Q q => by
  cases a
  exact ⟨i, rfl, q _ _ H o .refl (.int _) rfl⟩
theorem opv_eqI {i j : Int} : OpV F ks rEq (.int i) (.int j) (fun d => d = .bl (decide (i = j))) := fun M σ H o v w a b Q q => by
  cases a; cases b
  refine ⟨rfl, ?_⟩
  have e : decide (V.int i = V.int j) = decide (i = j) := by
    by_cases h : i = j
    · subst h; simp
    · rw [decide_eq_false h, decide_eq_false fun z => h (V.int.inj z)]
  rw [e]
  exact q _ _ H o .refl (.bl _) rfl
theorem opv_neI {i j : Int} : OpV F ks rNe (.int i) (.int j) (fun d => d = .bl (!decide (i = j))) := fun M σ H o v w a b Q q => by
  cases a; cases b
  refine ⟨rfl, ?_⟩
  have e : decide (V.int i = V.int j) = decide (i = j) := by
    by_cases h : i = j
    · subst h; simp
    · rw [decide_eq_false h, decide_eq_false fun z => h (V.int.inj z)]
  rw [e]
  exact q _ _ H o .refl (.bl _) rfl
theorem opv_eqB {i j : Bool} : OpV F ks rEq (.bl i) (.bl j) (fun d => d = .bl (i == j)) := fun M σ H o v w a b Q q => by
  cases a; cases b
  refine ⟨rfl, ?_⟩
  have e : decide (V.bl i = V.bl j) = (i == j) := by cases i <;> cases j <;> rfl
  rw [e]
  exact q _ _ H o .refl (.bl _) rfl
/-- is, is not None -/
theorem opv_isN {x : D} : OpV F ks (fun x y H Q => y = .non ∧ Q (.bl (decide (x = .non))) H) x .non (fun d => (x = .non → d = .bl true) ∧ ((match x with | .non => false | .raw _ => false | _ => true) = true → d = .bl false)) := fun M σ H o v w a b Q q => by
  cases b
  refine ⟨rfl, q _ _ H o .refl (.bl _) ?_⟩
  cases a <;> refine ⟨fun e => ?_, fun e => ?_⟩ <;> first | rfl | cases e
theorem opv_notN {x : D} : OpV F ks (fun x y H Q => y = .non ∧ Q (.bl (!decide (x = .non))) H) x .non (fun d => (x = .non → d = .bl false) ∧ ((match x with | .non => false | .raw _ => false | _ => true) = true → d = .bl true)) := fun M σ H o v w a b Q q => by
  cases b
  refine ⟨rfl, q _ _ H o .refl (.bl _) ?_⟩
  cases a <;> refine ⟨fun e => ?_, fun e => ?_⟩ <;> first | rfl | cases e
/-! arguments, displays -/
theorem ea_nil : EvA F ks tNil [] := fun M σ H o Q q => q _ _ H o .refl .nil rfl
theorem ea_consR {ta : TE} {tr : TA} {Ra : D → Prop} {Rr : List D → Prop} (ha : EvR F ks ta Ra) (hr : EvAR F ks tr Rr) : EvAR F ks (tCons ta tr) (fun ds => ∃ d es, Ra d ∧ Rr es ∧ ds = d :: es) := fun M σ H o Q q =>
  ha M σ H o _ fun v x H1 o1 s1 a1 r1 => hr M σ H1 o1 _ fun vs xs H2 o2 s2 a2 r2 => q _ _ H2 o2 (s1.trans s2) (.cons (a1.mono (o1.hidStep s2)) a2) ⟨x, xs, r1, r2, rfl⟩
theorem ea_cons {ta : TE} {tr : TA} {d : D} {ds : List D} (ha : Ev F ks ta d) (hr : EvA F ks tr ds) : EvA F ks (tCons ta tr) (d :: ds) := fun M σ H o Q q =>
  ha M σ H o _ fun v x H1 o1 s1 a1 r1 => hr M σ H1 o1 _ fun vs xs H2 o2 s2 a2 r2 => q _ _ H2 o2 (s1.trans s2) (.cons (a1.mono (o1.hidStep s2)) a2) (by rw [r1, r2])
theorem ea_one {ta : TE} {d : D} (ha : Ev F ks ta d) : EvA F ks (tCons ta tNil) [d] := ea_cons ha ea_nil
theorem ea_oneR {ta : TE} {R : D → Prop} (ha : EvR F ks ta R) : EvAR F ks (tCons ta tNil) (fun ds => ∃ d, R d ∧ ds = [d]) := fun M σ H o Q q =>
  ha M σ H o _ fun v x H1 o1 s1 a1 r1 => q _ _ H1 o1 s1 (.cons a1 .nil) ⟨x, r1, rfl⟩
/-- a new tuple stands -/
theorem tup_new {vs : List V} {ds : List D} (o : Ok F ks M σ H) (a : Ats F.K (hid M H) vs ds) {p : Addr} (n : H p = none) :
    Ok F ks M σ (upd H p (.tup vs)) ∧ Step ks σ H (upd H p (.tup vs)) ∧ At F.K (hid M (upd H p (.tup vs))) (.ref p) (.tup ds) :=
  ⟨o.same (same_new n), .of (same_new n), .tup (.inl (.inl (by rw [hid_out (o.fresh n), upd_same]))) (a.mono (hid_mono (same_new n)))⟩
theorem lst_new {vs : List V} {ds : List D} (o : Ok F ks M σ H) (a : Ats F.K (hid M H) vs ds) {p : Addr} (n : H p = none) :
    Ok F ks (p :: M) σ (upd H p (.lst vs)) ∧ Step ks σ H (upd H p (.lst vs)) ∧ (upd H p (.lst vs)) p = some (.lst vs) ∧ Ats F.K (hid (p :: M) (upd H p (.lst vs))) vs ds :=
  ⟨o.hide n, .of (same_new n), upd_same, by rw [hid_new n]; exact a⟩
theorem ev_tupR {ta : TA} {R : List D → Prop} (h : EvAR F ks ta R) (hl : ∀ ds, R ds → ds.length ≤ sizeLine) : EvR F ks (tTup ta) (fun d => ∃ ds, R ds ∧ d = .tup ds) := fun M σ H o Q q =>
  h M σ H o _ fun vs ds H1 o1 s1 a1 r1 => ⟨by rw [a1.length]; exact hl _ r1, fun p n => by
    obtain ⟨o2, s2, a2⟩ := tup_new o1 a1 n
    exact q _ _ _ o2 (s1.trans s2) a2 ⟨ds, r1, rfl⟩⟩
theorem ev_tup {ta : TA} {ds : List D} (h : EvA F ks ta ds) (hl : Nat.ble ds.length 1000 = true := by rfl) : Ev F ks (tTup ta) (.tup ds) := (ev_tupR h fun es e => by rw [e]; exact Nat.le_trans (Nat.le_of_ble_eq_true hl) (by decide)).imp fun d ⟨es, e, z⟩ => by rw [z, e]
theorem el_lstR {ta : TA} {R : List D → Prop} (h : EvAR F ks ta R) (hl : ∀ ds, R ds → ds.length ≤ sizeLine) : EvLR F ks (tLst ta) R := fun M σ H o Q q =>
  h M σ H o _ fun vs ds H1 o1 s1 a1 r1 => ⟨by rw [a1.length]; exact hl _ r1, fun p n => by
    obtain ⟨o2, s2, l2, a2⟩ := lst_new o1 a1 n
    refine q _ _ _ _ ?_ o2 (s1.trans s2) l2 a2 r1
    cases e : H p with
    | none => rfl
    | some u =>
      rw [s1 _ _ e (o1.noOwn n)] at n
      cases n⟩
theorem el_lst {ta : TA} {ds : List D} (h : EvA F ks ta ds) (hl : Nat.ble ds.length 1000 = true := by rfl) : EvL F ks (tLst ta) ds := el_lstR h fun es e => by rw [e]; exact Nat.le_trans (Nat.le_of_ble_eq_true hl) (by decide)
/-- a new list as a datum -/
theorem ev_lstR {te : TE} {R : List D → Prop} (h : EvLR F ks te R) : EvR F ks te (fun d => ∃ ds, R ds ∧ d = .lst ds) := fun M σ H o Q q =>
  h M σ H o _ fun p vs ds H1 n o1 s1 l1 a1 r1 => by
    have np : p ∉ M := o.fresh n
    have nm : p ∉ F.M0 := fun z => np (o.sup p z)
    have no : ¬ OwnA ks σ p := o.noOwn n
    exact q _ _ H1 (o1.show no nm (o.nstFresh s1 n)) s1 (.lst (by rw [hid_out np]; exact l1) (a1.mono (hid_sub fun a z => List.mem_cons_of_mem _ z))) ⟨ds, r1, rfl⟩
theorem ev_lst {te : TE} {ds : List D} (h : EvL F ks te ds) : Ev F ks te (.lst ds) := (ev_lstR h).imp fun d ⟨es, e, z⟩ => by rw [z, e]
/-! calls of built-ins -/
theorem ev_cbR {r : List V → Hp → VK → Prop} {ta : TA} {Ra : List D → Prop} {R : D → Prop} (h : EvAR F ks ta Ra) (hr : ∀ ds, Ra ds → CaV F ks r ds R) : EvR F ks (tCB r ta) R := fun M σ H o Q q =>
  h M σ H o _ fun vs ds H1 o1 s1 a1 r1 => hr ds r1 M σ H1 o1 vs a1 Q fun z d H2 o2 s2 a2 r2 => q z d H2 o2 (s1.trans s2) a2 r2
theorem ev_cb {r : List V → Hp → VK → Prop} {ta : TA} {ds : List D} {R : D → Prop} (h : EvA F ks ta ds) (hr : CaV F ks r ds R) : EvR F ks (tCB r ta) R := ev_cbR h fun es e => by rw [e]; exact hr
theorem el_cbR {r : List V → Hp → VK → Prop} {ta : TA} {Ra : List D → Prop} {R : List D → Prop} (h : EvAR F ks ta Ra) (hr : ∀ ds, Ra ds → CaVL F ks r ds R) : EvLR F ks (tCB r ta) R := fun M σ H o Q q =>
  h M σ H o _ fun vs ds H1 o1 s1 a1 r1 => hr ds r1 M σ H1 o1 vs a1 Q fun p ws d H2 n o2 s2 l2 a2 r2 => q p ws d H2 (by
    cases e : H p with
    | none => rfl
    | some u =>
      rw [s1 _ _ e (o1.noOwn n)] at n
      cases n) o2 (s1.trans s2) l2 a2 r2
theorem el_cb {r : List V → Hp → VK → Prop} {ta : TA} {ds : List D} {R : List D → Prop} (h : EvA F ks ta ds) (hr : CaVL F ks r ds R) : EvLR F ks (tCB r ta) R := el_cbR h fun es e => by rw [e]; exact hr
/-! tests -/
theorem et_testR {te : TE} {R : Bool → Prop} (h : EvR F ks te (fun d => ∃ b, R b ∧ d = .bl b)) : EvTR F ks (tTest te) R := fun M σ H o Q q =>
  h M σ H o _ fun v d H1 o1 s1 a1 ⟨b, r1, e⟩ => by
    subst e
    cases a1
    exact ⟨b, rfl, q b H1 o1 s1 r1⟩
theorem et_test {te : TE} {b : Bool} (h : Ev F ks te (.bl b)) : EvT F ks (tTest te) b := et_testR (h.imp fun d e => ⟨b, rfl, e⟩)
theorem et_BR {te : TE} {R : Bool → Prop} (h : EvR F ks te (fun d => ∃ b, R b ∧ d = .bl b)) : EvTR F ks (tB te) R := et_testR h
theorem et_B {te : TE} {b : Bool} (h : Ev F ks te (.bl b)) : EvT F ks (tB te) b := et_test h
theorem et_and {t u : TT} {a b : Bool} (h1 : EvT F ks t a) (h2 : a = true → EvT F ks u b) : EvT F ks (tAnd t u) (a && b) := fun M σ H o Q q => h1 M σ H o _ fun c H1 o1 s1 e => by
  subst e
  cases c with
  | true =>
    show u σ H1 Q
    exact h2 rfl M σ H1 o1 Q fun c2 H2 o2 s2 e2 => q c2 H2 o2 (s1.trans s2) (by rw [e2]; rfl)
  | false =>
    show Q false H1
    exact q false H1 o1 s1 rfl
theorem et_or {t u : TT} {a b : Bool} (h1 : EvT F ks t a) (h2 : a = false → EvT F ks u b) : EvT F ks (tOr t u) (a || b) := fun M σ H o Q q => h1 M σ H o _ fun c H1 o1 s1 e => by
  subst e
  cases c with
  | true =>
    show Q true H1
    exact q true H1 o1 s1 rfl
  | false =>
    show u σ H1 Q
    exact h2 rfl M σ H1 o1 Q fun c2 H2 o2 s2 e2 => q c2 H2 o2 (s1.trans s2) (by rw [e2]; rfl)
theorem et_not {t : TT} {a : Bool} (h : EvT F ks t a) : EvT F ks (tNot t) (!a) := fun M σ H o Q q => h M σ H o _ fun c H1 o1 s1 e => q _ H1 o1 s1 (by rw [e])
theorem et_notR {t : TT} {R : Bool → Prop} (h : EvTR F ks t R) : EvTR F ks (tNot t) (fun b => R (!b)) := fun M σ H o Q q => h M σ H o _ fun c H1 o1 s1 e => q _ H1 o1 s1 (by show R (!!c); rw [Bool.not_not]; exact e)
theorem ev_and {ta tb : TE} {a : Bool} {d : D} (h1 : Ev F ks ta (.bl a)) (h2 : a = true → Ev F ks tb d) (h3 : a = false → d = .bl false) : Ev F ks (tAndV ta tb) d := fun M σ H o Q q => h1 M σ H o _ fun v x H1 o1 s1 a1 e => by
  subst e
  cases a1
  refine ⟨a, rfl, ?_⟩
  cases a with
  | true =>
    show tb σ H1 Q
    exact h2 rfl M σ H1 o1 Q fun v2 x2 H2 o2 s2 a2 e2 => q v2 x2 H2 o2 (s1.trans s2) a2 e2
  | false =>
    show Q (.bl false) H1
    exact q _ _ H1 o1 s1 (.bl false) (h3 rfl).symm
theorem ev_or {ta tb : TE} {a : Bool} {d : D} (h1 : Ev F ks ta (.bl a)) (h2 : a = false → Ev F ks tb d) (h3 : a = true → d = .bl true) : Ev F ks (tOrV ta tb) d := fun M σ H o Q q => h1 M σ H o _ fun v x H1 o1 s1 a1 e => by
  subst e
  cases a1
  refine ⟨a, rfl, ?_⟩
  cases a with
  | false =>
    show tb σ H1 Q
    exact h2 rfl M σ H1 o1 Q fun v2 x2 H2 o2 s2 a2 e2 => q v2 x2 H2 o2 (s1.trans s2) a2 e2
  | true =>
    show Q (.bl true) H1
    exact q _ _ H1 o1 s1 (.bl true) (h3 rfl).symm
theorem ev_not {ta : TE} {a : Bool} (h1 : Ev F ks ta (.bl a)) : Ev F ks (tNotV ta) (.bl (!a)) := fun M σ H o Q q => h1 M σ H o _ fun v x H1 o1 s1 a1 e => by
  subst e
  cases a1
  exact ⟨a, rfl, q _ _ H1 o1 s1 (.bl _) rfl⟩
theorem ev_ifR {t : TT} {ta tb : TE} {Rt : Bool → Prop} {R : D → Prop} (h : EvTR F ks t Rt) (h1 : Rt true → EvR F ks ta R) (h2 : Rt false → EvR F ks tb R) : EvR F ks (tIf t ta tb) R := fun M σ H o Q q => h M σ H o _ fun c H1 o1 s1 e => by
  cases c with
  | true =>
    show ta σ H1 Q
    exact h1 e M σ H1 o1 Q fun v2 x2 H2 o2 s2 a2 e2 => q v2 x2 H2 o2 (s1.trans s2) a2 e2
  | false =>
    show tb σ H1 Q
    exact h2 e M σ H1 o1 Q fun v2 x2 H2 o2 s2 a2 e2 => q v2 x2 H2 o2 (s1.trans s2) a2 e2
theorem ev_if {t : TT} {ta tb : TE} {b : Bool} {R : D → Prop} (h : EvT F ks t b) (h1 : b = true → EvR F ks ta R) (h2 : b = false → EvR F ks tb R) : EvR F ks (tIf t ta tb) R := ev_ifR h (fun e => h1 e.symm) (fun e => h2 e.symm)
/-- a < b < c -/
theorem ev_chain {r r' : R2} {ta tb tc : TE} {x y : D} {a : Bool} {d : D} (ha : Ev F ks ta x) (hb : Ev F ks tb y) (h1 : OpV F ks r x y (fun d => d = .bl a)) (h2 : a = true → ∃ z, Ev F ks tc z ∧ OpV F ks r' y z (fun e => e = d)) (h3 : a = false → d = .bl false) :
    Ev F ks (tChain r r' ta tb tc) d := fun M σ H o Q q =>
  ha M σ H o _ fun v x' H1 o1 s1 a1 e1 => hb M σ H1 o1 _ fun w y' H2 o2 s2 a2 e2 => by
    subst e1; subst e2
    refine h1 M σ H2 o2 v w (a1.mono (o1.hidStep s2)) a2 _ fun z dz H3 o3 s3 a3 e3 => ?_
    subst e3
    cases a3
    refine ⟨a, rfl, ?_⟩
    cases a with
    | true =>
      obtain ⟨z, hz, hr⟩ := h2 rfl
      rw [if_pos rfl]
      refine hz M σ H3 o3 _ fun u z' H4 o4 s4 a4 e4 => ?_
      subst e4
      exact hr M σ H4 o4 w u ((a2.mono (o2.hidStep s3)).mono (o3.hidStep s4)) a4 Q fun t d' H5 o5 s5 a5 e5 => q t d' H5 o5 ((((s1.trans s2).trans s3).trans s4).trans s5) a5 e5
    | false =>
      rw [if_neg Bool.false_ne_true]
      exact q _ _ H3 o3 ((s1.trans s2).trans s3) (.bl false) (h3 rfl).symm
/-! places -/
theorem opv_ixL {ds : List D} {i : Int} {d : D} (h : atI ds i = some d) : OpV F ks (rIxL F.K) (.lst ds) (.int i) (fun x => x = d) := fun M σ H o v w a b Q q => by
  cases a with
  | lst hl hs =>
    cases b
    rename_i p xs
    have e : ∃ u, atI xs i = some u ∧ At F.K (hid M H) u d := by
      unfold atI at h ⊢
      rw [hs.length]
      cases z : ixN ds.length i with
      | none => rw [z] at h; cases h
      | some j =>
        rw [z] at h
        exact hs.get h
    obtain ⟨u, e1, e2⟩ := e
    exact ⟨p, xs, i, u, rfl, rfl, .inl (.inl (hid_same _ _ hl)), e1, q _ _ H o .refl e2 rfl⟩
theorem opv_ixT {ds : List D} {i : Int} {d : D} (h : atI ds i = some d) : OpV F ks (rIxT F.K) (.tup ds) (.int i) (fun x => x = d) := fun M σ H o v w a b Q q => by
  cases a with
  | tup hl hs =>
    cases b
    rename_i p xs
    have e : ∃ u, atI xs i = some u ∧ At F.K (hid M H) u d := by
      unfold atI at h ⊢
      rw [hs.length]
      cases z : ixN ds.length i with
      | none => rw [z] at h; cases h
      | some j =>
        rw [z] at h
        exact hs.get h
    obtain ⟨u, e1, e2⟩ := e
    exact ⟨p, xs, i, u, rfl, rfl, same_t hid_same hl, e1, q _ _ H o .refl e2 rfl⟩
/-- of a list or tuple -/
theorem opv_ix {x : D} {ds : List D} {i : Int} {d : D} (hx : x = .lst ds ∨ x = .tup ds) (h : atI ds i = some d) : OpV F ks (rIx F.K) x (.int i) (fun x => x = d) := by
  rcases hx with e | e
  · subst e
    exact fun M σ H o v w a b Q q => .inl (opv_ixL h M σ H o v w a b Q q)
  · subst e
    exact fun M σ H o v w a b Q q => .inr (.inl (opv_ixT h M σ H o v w a b Q q))
/-! joins -/
theorem opv_catA {xs ys : List D} (h : xs.length + ys.length ≤ sizeLine) : OpV F ks (rCatA F.K) (.tup xs) (.tup ys) (fun x => x = .tup (xs ++ ys)) := fun M σ H o v w a b Q q => by
  cases a with
  | tup hl hs =>
    cases b with
    | tup hl2 hs2 =>
      rename_i p vs p2 vs2
      refine ⟨p, p2, vs, vs2, rfl, rfl, same_t hid_same hl, same_t hid_same hl2, by rw [hs.length, hs2.length]; exact h, fun e => ?_, fun _ e => ?_, fun _ _ t n => ?_⟩
      · subst e
        cases hs
        exact q _ _ H o .refl (.tup hl2 hs2) rfl
      · subst e
        cases hs2
        exact q _ _ H o .refl (.tup hl hs) (by rw [List.append_nil])
      · obtain ⟨o2, s2, a2⟩ := tup_new o (hs.append hs2) n
        exact q _ _ _ o2 s2 a2 rfl
theorem opv_catL {xs ys : List D} (h : xs.length + ys.length ≤ sizeLine) : OpVL F ks rCat (.lst xs) (.lst ys) (fun x => x = xs ++ ys) := fun M σ H o v w a b Q q => by
  cases a with
  | lst hl hs =>
    cases b with
    | lst hl2 hs2 =>
      rename_i p vs p2 vs2
      refine ⟨p, p2, vs, vs2, rfl, rfl, hid_same _ _ hl, hid_same _ _ hl2, by rw [hs.length, hs2.length]; exact h, fun t n => ?_⟩
      obtain ⟨o2, s2, l2, a2⟩ := lst_new o (hs.append hs2) n
      exact q _ _ _ _ n o2 s2 l2 a2 rfl
theorem flat1 {α : Type} (x : α) (n : Nat) : (List.replicate n [x]).flatten = List.replicate n x := by
  induction n with
  | zero => rfl
  | succ n ih => rw [List.replicate_succ, List.flatten_cons, ih, List.replicate_succ]; rfl
theorem opv_rep1 {d : D} {k : Int} (h0 : -(2 ^ 62) ≤ k) (h1 : k ≤ 1000000) : OpVL F ks rRep (.lst [d]) (.int k) (fun x => x = List.replicate k.toNat d) := fun M σ H o v w a b Q q => by
  cases a with
  | lst hl hs =>
    cases b
    cases hs with
    | cons ha hn =>
      cases hn
      rename_i p v
      refine ⟨p, k, [v], rfl, rfl, hid_same _ _ hl, by omega, by omega, ?_, fun t n => ?_⟩
      · show 1 * k.toNat ≤ sizeLine
        rw [sizeLine_eq]
        omega
      · rw [flat1]
        obtain ⟨o2, s2, l2, a2⟩ := lst_new o (Ats.rep ha k.toNat) n
        exact q _ _ _ _ n o2 s2 l2 a2 rfl
/-! len, tuple, list, sum, int -/
theorem cav_lenL {ds : List D} : CaV F ks (fun xs H Q => ∃ x n, xs = [x] ∧ LenV F.K x H n ∧ Q (.int n) H) [.lst ds] (fun d => d = .int ds.length) := fun M σ H o vs a Q q => by
  cases a with
  | cons a1 a2 =>
    cases a2
    cases a1 with
    | lst hl hs => exact ⟨_, _, rfl, .inl ⟨_, .inl (.inl (hid_same _ _ hl)), rfl⟩, by rw [hs.length]; exact q _ _ H o .refl (.int _) rfl⟩
theorem cav_lenT {ds : List D} : CaV F ks (fun xs H Q => ∃ x n, xs = [x] ∧ LenV F.K x H n ∧ Q (.int n) H) [.tup ds] (fun d => d = .int ds.length) := fun M σ H o vs a Q q => by
  cases a with
  | cons a1 a2 =>
    cases a2
    cases a1 with
    | tup hl hs => exact ⟨_, _, rfl, .inr ⟨_, same_t hid_same hl, rfl⟩, by rw [hs.length]; exact q _ _ H o .refl (.int _) rfl⟩
theorem cav_len {x : D} {ds : List D} (hx : x = .lst ds ∨ x = .tup ds) : CaV F ks (fun xs H Q => ∃ x n, xs = [x] ∧ LenV F.K x H n ∧ Q (.int n) H) [x] (fun d => d = .int ds.length) := by
  rcases hx with e | e
  · rw [e]; exact cav_lenL
  · rw [e]; exact cav_lenT
abbrev rTupOf (K : PySem.W.Frag) : List V → Hp → VK → Prop := fun xs H Q => ∃ p ys, xs = [.ref p] ∧ ((SqL K H p ys ∧ ∀ l, H l = none → Q (.ref l) (upd H l (.tup ys))) ∨ (SqT K H p ys ∧ Q (.ref p) H))
abbrev rLstOf (K : PySem.W.Frag) : List V → Hp → VK → Prop := fun xs H Q => ∃ p ys, xs = [.ref p] ∧ (SqL K H p ys ∨ SqT K H p ys) ∧ ∀ l, H l = none → Q (.ref l) (upd H l (.lst ys))
theorem cav_tupL {ds : List D} : CaV F ks (rTupOf F.K) [.lst ds] (fun d => d = .tup ds) := fun M σ H o vs a Q q => by
  cases a with
  | cons a1 a2 =>
    cases a2
    cases a1 with
    | lst hl hs =>
      refine ⟨_, _, rfl, .inl ⟨.inl (.inl (hid_same _ _ hl)), fun p n => ?_⟩⟩
      obtain ⟨o2, s2, a2⟩ := tup_new o hs n
      exact q _ _ _ o2 s2 a2 rfl
theorem cav_tupT {ds : List D} : CaV F ks (rTupOf F.K) [.tup ds] (fun d => d = .tup ds) := fun M σ H o vs a Q q => by
  cases a with
  | cons a1 a2 =>
    cases a2
    cases a1 with
    | tup hl hs => exact ⟨_, _, rfl, .inr ⟨same_t hid_same hl, q _ _ H o .refl (.tup hl hs) rfl⟩⟩
theorem cav_tup {x : D} {ds : List D} (hx : x = .lst ds ∨ x = .tup ds) : CaV F ks (rTupOf F.K) [x] (fun d => d = .tup ds) := by
  rcases hx with e | e
  · rw [e]; exact cav_tupL
  · rw [e]; exact cav_tupT
/-- tuple(e), e a new list -/
theorem ev_tupleR {te : TE} {R : List D → Prop} (h : EvLR F ks te R) : EvR F ks (tCB (rTupOf F.K) (tCons te tNil)) (fun d => ∃ ds, R ds ∧ d = .tup ds) :=
  ev_cbR (ea_oneR (ev_lstR h)) fun es ⟨d, ⟨ds, r, e1⟩, e2⟩ => by
    subst e1; subst e2
    exact fun M σ H o vs a Q q => cav_tupL M σ H o vs a Q fun z d H' o' s' a' e => q z d H' o' s' a' ⟨ds, r, e⟩
theorem ev_tuple {te : TE} {ds : List D} (h : EvL F ks te ds) : Ev F ks (tCB (rTupOf F.K) (tCons te tNil)) (.tup ds) := (ev_tupleR h).imp fun d ⟨es, e, z⟩ => by rw [z, e]
theorem cavl_lstL {ds : List D} : CaVL F ks (rLstOf F.K) [.lst ds] (fun d => d = ds) := fun M σ H o vs a Q q => by
  cases a with
  | cons a1 a2 =>
    cases a2
    cases a1 with
    | lst hl hs =>
      refine ⟨_, _, rfl, .inl (.inl (.inl (hid_same _ _ hl))), fun p n => ?_⟩
      obtain ⟨o2, s2, l2, a2⟩ := lst_new o hs n
      exact q _ _ _ _ n o2 s2 l2 a2 rfl
theorem cavl_lstT {ds : List D} : CaVL F ks (rLstOf F.K) [.tup ds] (fun d => d = ds) := fun M σ H o vs a Q q => by
  cases a with
  | cons a1 a2 =>
    cases a2
    cases a1 with
    | tup hl hs =>
      refine ⟨_, _, rfl, .inr (same_t hid_same hl), fun p n => ?_⟩
      obtain ⟨o2, s2, l2, a2⟩ := lst_new o hs n
      exact q _ _ _ _ n o2 s2 l2 a2 rfl
theorem cav_sum {ns : List Int} : CaV F ks (rSum F.K) [.lst (ns.map D.int)] (fun d => d = .int ns.sum) := fun M σ H o vs a Q q => by
  cases a with
  | cons a1 a2 =>
    cases a2
    cases a1 with
    | lst hl hs =>
      have e := hs.ints
      subst e
      exact ⟨_, ns, rfl, .inl (.inl (hid_same _ _ hl)), q _ _ H o .refl (.int _) rfl⟩
end
end Dl
set_option Elab.async false
set_option linter.all false
set_option maxRecDepth 100000
set_option maxHeartbeats 4000000
/-! Dl3: what is walked, comprehensions, statements, loops. -/
namespace Dl
open PySem PySem.Spec PyProof.Rows L2
section
variable {F : Fm} {ks : List Kd} {M : List Addr} {σ : Sg} {H H' : Hp}
/-! ### slots -/
theorem getK {α : Type} {l : List α} {i j : Nat} {a b : α} (h : (l.set i a)[j]? = some b) : (i = j ∧ j < l.length ∧ a = b) ∨ (i ≠ j ∧ l[j]? = some b) := by
  rw [List.getElem?_set] at h
  by_cases e : i = j
  · rw [if_pos e] at h
    by_cases l1 : i < l.length
    · rw [if_pos l1] at h
      exact .inl ⟨e, by omega, Option.some.inj h⟩
    · rw [if_neg l1] at h
      cases h
  · rw [if_neg e] at h
    exact .inr ⟨e, h⟩
theorem Ok.lt (o : Ok F ks M σ H) {i : Nat} (h : i < ks.length) : i < σ.length := by rw [o.len]; exact h
theorem Has.at {x y : Option (Option V)} {p : Addr} {φ : List D → Prop} (h : Has F M H x p φ) (e : y = x) : Has F M H y p φ := by rw [e]; exact h
theorem ownA_set {i : Nat} {k' : Kd} {v : Option V} {a : Addr} (h : isM k' = false) (z : OwnA (ks.set i k') (σ.set i v) a) : OwnA ks σ a := by
  obtain ⟨j, k, h1, h2, h3⟩ := z
  rcases getK h1 with ⟨rfl, l, q⟩ | ⟨n, q⟩
  · rw [← q, h] at h2; cases h2
  · rw [List.getElem?_set_ne n] at h3
    exact ⟨j, k, q, h2, h3⟩
theorem Ok.nstSet (o : Ok F ks M σ H) {i j : Nat} {k' : Kd} {v : Option V} {φ : List (List D) → Prop} (hk : ∀ ψ, k' ≠ .nst ψ) (h : (ks.set i k')[j]? = some (.nst φ)) : i ≠ j ∧ ks[j]? = some (.nst φ) := by
  rcases getK h with ⟨_, _, q⟩ | ⟨n, q⟩
  · exact absurd q (hk φ)
  · exact ⟨n, q⟩
theorem Ok.oneSet (o : Ok F ks M σ H) {i : Nat} {k' : Kd} (hk : ∀ ψ, k' ≠ .nst ψ) (j l : Nat) (φ ψ : List (List D) → Prop) (h1 : (ks.set i k')[j]? = some (.nst φ)) (h2 : (ks.set i k')[l]? = some (.nst ψ)) : j = l :=
  o.one j l φ ψ (o.nstSet (v := none) hk h1).2 (o.nstSet (v := none) hk h2).2
/-- a slot gets a datum -/
theorem Ok.setD (o : Ok F ks M σ H) {i : Nat} {v : V} {d : D} (a : At F.K (hid M H) v d) : Ok F (ks.set i (.dat d)) M (σ.set i (some v)) H where
  len := by rw [List.length_set, List.length_set]; exact o.len
  dat := fun j e h => by
    rcases getK h with ⟨rfl, l, q⟩ | ⟨n, q⟩
    · cases q
      exact ⟨v, List.getElem?_set_self (o.lt l), a⟩
    · rw [List.getElem?_set_ne n]
      exact o.dat j e q
  own := fun j φ h => by
    rcases getK h with ⟨rfl, l, q⟩ | ⟨n, q⟩
    · cases q
    · obtain ⟨p, h1, h2⟩ := o.own j φ q
      exact ⟨p, h1, h2.at (List.getElem?_set_ne n)⟩
  bor := fun j φ h => by
    rcases getK h with ⟨rfl, l, q⟩ | ⟨n, q⟩
    · cases q
    · obtain ⟨p, h1, h2⟩ := o.bor j φ q
      exact ⟨p, h1, h2.at (List.getElem?_set_ne n)⟩
  inj := fun j k x y p h1 h2 m1 m2 s1 s2 => by
    rcases getK h1 with ⟨rfl, l, q⟩ | ⟨n, q⟩
    · rw [← q] at m1; cases m1
    · rcases getK h2 with ⟨rfl, l, q2⟩ | ⟨n2, q2⟩
      · rw [← q2] at m2; cases m2
      · rw [List.getElem?_set_ne n] at s1
        rw [List.getElem?_set_ne n2] at s2
        exact o.inj j k x y p q q2 m1 m2 s1 s2
  nst := fun j φ h => by
    obtain ⟨n, q⟩ := o.nstSet (v := none) (fun ψ e => by cases e) h
    obtain ⟨p, qs, h1, h2⟩ := o.nst j φ q
    exact ⟨p, qs, h1.to rfl (List.getElem?_set_ne n) h1.mem (fun _ _ _ h => h) (Same.refl _) (fun _ r => r), fun a ha z => h2 a ha (ownA_set rfl z)⟩
  one := o.oneSet (fun ψ e => by cases e)
  base := o.base
  vis := o.vis
  sup := o.sup
  live := o.live
/-- a slot's value is forgotten, or takes any -/
theorem Ok.setA (o : Ok F ks M σ H) {i : Nat} {v : Option V} : Ok F (ks.set i .any) M (σ.set i v) H where
  len := by rw [List.length_set, List.length_set]; exact o.len
  dat := fun j e h => by
    rcases getK h with ⟨rfl, l, q⟩ | ⟨n, q⟩
    · cases q
    · rw [List.getElem?_set_ne n]
      exact o.dat j e q
  own := fun j φ h => by
    rcases getK h with ⟨rfl, l, q⟩ | ⟨n, q⟩
    · cases q
    · obtain ⟨p, h1, h2⟩ := o.own j φ q
      exact ⟨p, h1, h2.at (List.getElem?_set_ne n)⟩
  bor := fun j φ h => by
    rcases getK h with ⟨rfl, l, q⟩ | ⟨n, q⟩
    · cases q
    · obtain ⟨p, h1, h2⟩ := o.bor j φ q
      exact ⟨p, h1, h2.at (List.getElem?_set_ne n)⟩
  inj := fun j k x y p h1 h2 m1 m2 s1 s2 => by
    rcases getK h1 with ⟨rfl, l, q⟩ | ⟨n, q⟩
    · rw [← q] at m1; cases m1
    · rcases getK h2 with ⟨rfl, l, q2⟩ | ⟨n2, q2⟩
      · rw [← q2] at m2; cases m2
      · rw [List.getElem?_set_ne n] at s1
        rw [List.getElem?_set_ne n2] at s2
        exact o.inj j k x y p q q2 m1 m2 s1 s2
  nst := fun j φ h => by
    obtain ⟨n, q⟩ := o.nstSet (v := none) (fun ψ e => by cases e) h
    obtain ⟨p, qs, h1, h2⟩ := o.nst j φ q
    exact ⟨p, qs, h1.to rfl (List.getElem?_set_ne n) h1.mem (fun _ _ _ h => h) (Same.refl _) (fun _ r => r), fun a ha z => h2 a ha (ownA_set rfl z)⟩
  one := o.oneSet (fun ψ e => by cases e)
  base := o.base
  vis := o.vis
  sup := o.sup
  live := o.live
/-- a slot gets a new list -/
theorem Ok.setO (o : Ok F ks (p :: M) σ H') {i : Nat} {vs : List V} {ds : List D} {φ : List D → Prop} (n : ¬ OwnA ks σ p) (nn : ¬ NstA ks σ H' p) (nm : p ∉ F.M0) (nb : F.B p = none) (l : H' p = some (.lst vs)) (a : Ats F.K (hid (p :: M) H') vs ds) (f : φ ds) :
    Ok F (ks.set i (.own φ)) (p :: M) (σ.set i (some (.ref p))) H' where
  len := by rw [List.length_set, List.length_set]; exact o.len
  dat := fun j e h => by
    rcases getK h with ⟨rfl, l, q⟩ | ⟨n, q⟩
    · cases q
    · rw [List.getElem?_set_ne n]
      exact o.dat j e q
  own := fun j φ h => by
    rcases getK h with ⟨rfl, hl, q⟩ | ⟨n, q⟩
    · cases q
      exact ⟨p, nm, List.getElem?_set_self (o.lt hl), List.mem_cons_self, nb, vs, ds, l, a, f⟩
    · obtain ⟨p, h1, h2⟩ := o.own j φ q
      exact ⟨p, h1, h2.at (List.getElem?_set_ne n)⟩
  bor := fun j φ h => by
    rcases getK h with ⟨rfl, hl, q⟩ | ⟨n, q⟩
    · cases q
    · obtain ⟨p, h1, h2⟩ := o.bor j φ q
      exact ⟨p, h1, h2.at (List.getElem?_set_ne n)⟩
  inj := fun j k x y r h1 h2 m1 m2 s1 s2 => by
    rcases getK h1 with ⟨rfl, hl, q⟩ | ⟨n1, q⟩
    · rcases getK h2 with ⟨rfl, hl2, q2⟩ | ⟨n2, q2⟩
      · rfl
      · rw [List.getElem?_set_self (o.lt hl)] at s1
        rw [List.getElem?_set_ne n2] at s2
        cases s1
        exact absurd ⟨k, y, q2, m2, s2⟩ n
    · rcases getK h2 with ⟨rfl, hl2, q2⟩ | ⟨n2, q2⟩
      · rw [List.getElem?_set_self (o.lt hl2)] at s2
        rw [List.getElem?_set_ne n1] at s1
        cases s2
        exact absurd ⟨j, x, q, m1, s1⟩ n
      · rw [List.getElem?_set_ne n1] at s1
        rw [List.getElem?_set_ne n2] at s2
        exact o.inj j k x y r q q2 m1 m2 s1 s2
  nst := fun j χ h => by
    obtain ⟨ne, q⟩ := o.nstSet (v := none) (fun ψ e => by cases e) h
    obtain ⟨r, qs, h1, h2⟩ := o.nst j χ q
    refine ⟨r, qs, h1.to rfl (List.getElem?_set_ne ne) h1.mem (fun _ _ _ h => h) (Same.refl _) (fun _ r => r), fun b hb z => ?_⟩
    obtain ⟨m, k, g1, g2, g3⟩ := z
    rcases getK g1 with ⟨rfl, hl, _⟩ | ⟨n2, q2⟩
    · rw [List.getElem?_set_self (o.lt hl)] at g3
      cases g3
      exact nn (h1.nstA q hb)
    · rw [List.getElem?_set_ne n2] at g3
      exact h2 b hb ⟨m, k, q2, g2, g3⟩
  one := o.oneSet (fun ψ e => by cases e)
  base := o.base
  vis := o.vis
  sup := o.sup
  live := o.live
/-- the kind with another wish -/
def reK (k : Kd) (ψ : List D → Prop) : Kd := match k with | .bor _ => .bor ψ | _ => .own ψ
/-- a slot's list is written -/
theorem Ok.putO (o : Ok F ks M σ H) {i : Nat} {k : Kd} {p : Addr} (hk : ks[i]? = some k) (hm : isM k = true) (hp : σ[i]? = some (some (.ref p))) {vs : List V} {ds : List D} {ψ : List D → Prop} (a : Ats F.K (hid M H) vs ds) (f : ψ ds) :
    Ok F (ks.set i (reK k ψ)) M σ (upd H p (.lst vs)) := by
  obtain ⟨p', φ, h1, h2, h3, us, es, h4, h5, h6⟩ := o.mAt hk hm
  rw [hp] at h1
  cases h1
  have hne : ∀ j l q, j ≠ i → ks[j]? = some l → isM l = true → σ[j]? = some (some (.ref q)) → q ≠ p := fun j l q n e m s z => by
    subst z
    exact n (o.inj j i l k q e hk m hm s hp)
  have keep : ∀ {x : Option (Option V)} {q : Addr} {χ : List D → Prop}, q ≠ p → Has F M H x q χ → Has F M (upd H p (.lst vs)) x q χ := fun {x q χ} n h => by
    obtain ⟨g1, g2, g3, ws, fs, g4, g5, g6⟩ := h
    exact ⟨g1, g2, g3, ws, fs, by rw [upd_ne n]; exact g4, by rw [hid_upd h2]; exact g5, g6⟩
  have new : Has F M (upd H p (.lst vs)) σ[i]? p ψ := ⟨hp, h2, h3, vs, ds, upd_same, by rw [hid_upd h2]; exact a, f⟩
  have ownB : ∀ b, OwnA (ks.set i (reK k ψ)) σ b → OwnA ks σ b := fun b z => by
    obtain ⟨j, l, g1, g2, g3⟩ := z
    rcases getK g1 with ⟨rfl, _, _⟩ | ⟨_, q⟩
    · exact ⟨i, k, hk, hm, g3⟩
    · exact ⟨j, l, q, g2, g3⟩
  have nn : ∀ ψ', reK k ψ ≠ .nst ψ' := fun ψ' e => by cases k <;> cases e
  have hN : ∀ (j : Nat) (χ : List (List D) → Prop), (ks.set i (reK k ψ))[j]? = some (.nst χ) → ∃ r qs, Nes F M (upd H p (.lst vs)) σ[j]? r qs χ ∧ ∀ a ∈ r :: qs, ¬ OwnA (ks.set i (reK k ψ)) σ a := fun j χ e => by
    obtain ⟨ne, q⟩ := o.nstSet (v := none) nn e
    obtain ⟨r, qs, g1, g2⟩ := o.nst j χ q
    exact ⟨r, qs, g1.to rfl rfl g1.mem (fun b hb u gu => by rw [upd_ne (fun z => g2 b hb (by rw [z]; exact ⟨i, k, hk, hm, hp⟩))]; exact gu) (by rw [hid_upd h2]; exact Same.refl _) (fun _ r => r), fun b hb z => g2 b hb (ownB b z)⟩
  refine ⟨by rw [List.length_set]; exact o.len, fun j d e => ?_, fun j χ e => ?_, fun j χ e => ?_, fun j l x y q e1 e2 m1 m2 s1 s2 => ?_, hN, o.oneSet nn, same_mut o.base h3, by rw [hid_upd h2]; exact o.vis, o.sup, fun b z => ?_⟩
  · rcases getK e with ⟨rfl, _, q⟩ | ⟨_, q⟩
    · cases k <;> cases q
    · rw [hid_upd h2]
      exact o.dat j d q
  · rcases getK e with ⟨rfl, _, q⟩ | ⟨n, q⟩
    · cases k with
      | any => cases hm
      | dat d => cases hm
      | nst _ => cases hm
      | bor _ => cases q
      | own φ' =>
        cases q
        obtain ⟨p2, g1, g2, _⟩ := o.own i φ' hk
        rw [hp] at g2
        cases g2
        exact ⟨p, g1, new⟩
    · obtain ⟨p2, g1, g2⟩ := o.own j χ q
      exact ⟨p2, g1, keep (hne j _ p2 (Ne.symm n) q rfl g2.1) g2⟩
  · rcases getK e with ⟨rfl, _, q⟩ | ⟨n, q⟩
    · cases k with
      | any => cases hm
      | dat d => cases hm
      | nst _ => cases hm
      | own _ => cases q
      | bor φ' =>
        cases q
        obtain ⟨p2, g1, g2, _⟩ := o.bor i φ' hk
        rw [hp] at g2
        cases g2
        exact ⟨p, g1, new⟩
    · obtain ⟨p2, g1, g2⟩ := o.bor j χ q
      exact ⟨p2, g1, keep (hne j _ p2 (Ne.symm n) q rfl g2.1) g2⟩
  · have back : ∀ (j : Nat) (x : Kd), (ks.set i (reK k ψ))[j]? = some x → isM x = true → ∃ x', ks[j]? = some x' ∧ isM x' = true := fun j x e m => by
      rcases getK e with ⟨rfl, _, q⟩ | ⟨n, q⟩
      · exact ⟨k, hk, hm⟩
      · exact ⟨x, q, m⟩
    obtain ⟨x', e1', m1'⟩ := back j x e1 m1
    obtain ⟨y', e2', m2'⟩ := back l y e2 m2
    exact o.inj j l x' y' q e1' e2' m1' m2' s1 s2
  · by_cases e : b = p
    · exact ⟨_, by rw [e, upd_same]⟩
    · rw [upd_ne e]
      exact o.live b z
/-- weaker kinds -/
def KLe : Kd → Kd → Prop
  | _, .any => True
  | .dat d, .dat e => d = e
  | .own φ, .own ψ => ∀ ds, φ ds → ψ ds
  | .bor φ, .bor ψ => ∀ ds, φ ds → ψ ds
  | .nst φ, .nst ψ => ∀ ds, φ ds → ψ ds
  | _, _ => False
theorem KLe.refl : ∀ k, KLe k k
  | .any => trivial
  | .dat _ => rfl
  | .own _ => fun _ h => h
  | .bor _ => fun _ h => h
  | .nst _ => fun _ h => h
def KsLe (ks ks' : List Kd) : Prop := ks.length = ks'.length ∧ ∀ (i : Nat) (k k' : Kd), ks[i]? = some k → ks'[i]? = some k' → KLe k k'
theorem Ok.weak {ks' : List Kd} (o : Ok F ks M σ H) (w : KsLe ks ks') : Ok F ks' M σ H := by
  have get : ∀ (i : Nat) (k' : Kd), ks'[i]? = some k' → ∃ k, ks[i]? = some k ∧ KLe k k' := fun i k' h => by
    have l : i < ks.length := by rw [w.1]; exact (List.getElem?_eq_some_iff.mp h).1
    exact ⟨ks[i], List.getElem?_eq_getElem l, w.2 i _ _ (List.getElem?_eq_getElem l) h⟩
  have back : ∀ (j : Nat) (x : Kd), ks'[j]? = some x → isM x = true → ∃ x', ks[j]? = some x' ∧ isM x' = true := fun j x e m => by
    obtain ⟨k, h1, h2⟩ := get j _ e
    refine ⟨k, h1, ?_⟩
    cases x with
    | any => cases m
    | dat d => cases m
    | nst _ => cases m
    | own φ =>
      cases k with
      | own _ => rfl
      | _ => exact h2.elim
    | bor φ =>
      cases k with
      | bor _ => rfl
      | _ => exact h2.elim
  have ownB : ∀ b, OwnA ks' σ b → OwnA ks σ b := fun b ⟨j, l, g1, g2, g3⟩ => by
    obtain ⟨x', e, m⟩ := back j l g1 g2
    exact ⟨j, x', e, m, g3⟩
  have getN : ∀ (j : Nat) (χ : List (List D) → Prop), ks'[j]? = some (.nst χ) → ∃ φ, ks[j]? = some (.nst φ) ∧ ∀ r, φ r → χ r := fun j χ e => by
    obtain ⟨k, h1, h2⟩ := get j _ e
    cases k with
    | nst φ => exact ⟨φ, h1, h2⟩
    | _ => exact h2.elim
  refine ⟨o.len.trans w.1, fun j d e => ?_, fun j χ e => ?_, fun j χ e => ?_, fun j l x y q e1 e2 m1 m2 s1 s2 => ?_, fun j χ e => ?_, fun j l χ ξ e1 e2 => ?_, o.base, o.vis, o.sup, o.live⟩
  · obtain ⟨k, h1, h2⟩ := get j _ e
    cases k with
    | dat d' =>
      cases (show d' = d from h2)
      exact o.dat j d h1
    | _ => exact h2.elim
  · obtain ⟨k, h1, h2⟩ := get j _ e
    cases k with
    | own φ =>
      obtain ⟨p, g1, g2⟩ := o.own j φ h1
      exact ⟨p, g1, g2.imp h2⟩
    | _ => exact h2.elim
  · obtain ⟨k, h1, h2⟩ := get j _ e
    cases k with
    | bor φ =>
      obtain ⟨p, g1, g2⟩ := o.bor j φ h1
      exact ⟨p, g1, g2.imp h2⟩
    | _ => exact h2.elim
  · obtain ⟨x', e1', m1'⟩ := back j x e1 m1
    obtain ⟨y', e2', m2'⟩ := back l y e2 m2
    exact o.inj j l x' y' q e1' e2' m1' m2' s1 s2
  · obtain ⟨φ, h1, h2⟩ := getN j χ e
    obtain ⟨p, qs, g1, g2⟩ := o.nst j φ h1
    exact ⟨p, qs, g1.to rfl rfl g1.mem (fun _ _ _ h => h) (Same.refl _) h2, fun a ha z => g2 a ha (ownB a z)⟩
  · obtain ⟨φ, h1, _⟩ := getN j χ e1
    obtain ⟨ψ, h2, _⟩ := getN l ξ e2
    exact o.one j l φ ψ h1 h2
theorem Cont.weak {ks' : List Kd} {N : Sg → Hp → Prop} (h : Cont F ks' N) (w : KsLe ks ks') : Cont F ks N := fun M σ H o => h M σ H (o.weak w)
/-- a list of one's own that is not changed any more -/
theorem Ok.freeze (o : Ok F ks M σ H) {i : Nat} {ds : List D} (h : ks[i]? = some (.own fun x => x = ds)) : ∃ M', Ok F (ks.set i (.dat (.lst ds))) M' σ H := by
  obtain ⟨p, n0, h1, h2, h3, vs, es, h4, h5, h6⟩ := o.own i _ h
  subst h6
  have sub : ∀ a, a ∈ M.filter (fun a => decide (a ≠ p)) → a ∈ M := fun a z => (List.mem_filter.mp z).1
  have np : p ∉ M.filter (fun a => decide (a ≠ p)) := fun z => by
    have := (List.mem_filter.mp z).2
    simp at this
  have inn : ∀ a, a ∈ M → a ≠ p → a ∈ M.filter (fun a => decide (a ≠ p)) := fun a z n => List.mem_filter.mpr ⟨z, decide_eq_true n⟩
  have hne : ∀ j l q, j ≠ i → ks[j]? = some l → isM l = true → σ[j]? = some (some (.ref q)) → q ≠ p := fun j l q n e m s z => by
    subst z
    exact n (o.inj j i l _ q e h m rfl s h1)
  refine ⟨M.filter (fun a => decide (a ≠ p)), by rw [List.length_set]; exact o.len, fun j d e => ?_, fun j χ e => ?_, fun j χ e => ?_, fun j l x y q e1 e2 m1 m2 s1 s2 => ?_, fun j χ e => ?_, o.oneSet (fun ψ e => by cases e), o.base, o.vis.trans (hid_sub sub), fun a z => inn a (o.sup a z) (fun e => n0 (by rw [← e]; exact z)), fun b z => o.live b (sub b z)⟩
  · rcases getK e with ⟨rfl, _, q⟩ | ⟨_, q⟩
    · cases q
      exact ⟨_, h1, .lst (by rw [hid_out np]; exact h4) (h5.mono (hid_sub sub))⟩
    · obtain ⟨v, g1, g2⟩ := o.dat j d q
      exact ⟨v, g1, g2.mono (hid_sub sub)⟩
  · rcases getK e with ⟨rfl, _, q⟩ | ⟨n, q⟩
    · cases q
    · obtain ⟨p2, g1, g2, g3, g4, ws, fs, g5, g6, g7⟩ := o.own j χ q
      exact ⟨p2, g1, g2, inn p2 g3 (hne j _ p2 (Ne.symm n) q rfl g2), g4, ws, fs, g5, g6.mono (hid_sub sub), g7⟩
  · rcases getK e with ⟨rfl, _, q⟩ | ⟨n, q⟩
    · cases q
    · obtain ⟨p2, g1, g2, g3, g4, ws, fs, g5, g6, g7⟩ := o.bor j χ q
      exact ⟨p2, g1, g2, inn p2 g3 (hne j _ p2 (Ne.symm n) q rfl g2), g4, ws, fs, g5, g6.mono (hid_sub sub), g7⟩
  · rcases getK e1 with ⟨rfl, _, q1⟩ | ⟨n1, q1⟩
    · rw [← q1] at m1; cases m1
    · rcases getK e2 with ⟨rfl, _, q2⟩ | ⟨n2, q2⟩
      · rw [← q2] at m2; cases m2
      · exact o.inj j l x y q q1 q2 m1 m2 s1 s2
  · obtain ⟨ne, q⟩ := o.nstSet (v := none) (fun ψ e => by cases e) e
    obtain ⟨r, qs, g1, g2⟩ := o.nst j χ q
    refine ⟨r, qs, g1.to rfl rfl (fun a ha => ⟨inn a (g1.mem a ha).1 (fun z => g2 a ha (by rw [z]; exact ⟨i, _, h, rfl, h1⟩)), (g1.mem a ha).2⟩) (fun _ _ _ h => h) (hid_sub sub) (fun _ r => r), fun a ha z => g2 a ha ?_⟩
    obtain ⟨m, l, e1, e2, e3⟩ := z
    rcases getK e1 with ⟨_, _, q1⟩ | ⟨_, q1⟩
    · rw [← q1] at e2; cases e2
    · exact ⟨m, l, q1, e2, e3⟩
theorem cont_freeze {N : Sg → Hp → Prop} (i : Nat) {ds : List D} (h : ks[i]? = some (.own fun x => x = ds)) (c : Cont F (ks.set i (.dat (.lst ds))) N) : Cont F ks N := fun M σ H o => by
  obtain ⟨M', o'⟩ := o.freeze h
  exact c M' σ H o'
/-! ### targets -/
def GB (F : Fm) (g : TG) (ks : List Kd) (d : D) (ks' : List Kd) : Prop := ∀ M σ H v, Ok F ks M σ H → At F.K (hid M H) v d → ∀ Q : Sg → Hp → Prop, (∀ σ', Ok F ks' M σ' H → Q σ' H) → g v σ H Q
theorem gb_name {i : Nat} {d : D} : GB F (gName i) ks d (ks.set i (.dat d)) := fun M σ H v o a Q q => q _ (o.setD a)
theorem gb_tup2 {i j : Nat} {a b : D} : GB F (gTup F.K 2 (gCons (gName i) (gCons (gName j) gNil))) ks (.tup [a, b]) ((ks.set i (.dat a)).set j (.dat b)) := fun M σ H v o h Q q => by
  cases h with
  | tup hs hd =>
    cases hd with
    | cons h1 hd =>
      cases hd with
      | cons h2 hd =>
        cases hd
        exact ⟨_, _, rfl, same_t hid_same hs, rfl, _, _, rfl, _, _, rfl, rfl, q _ ((o.setD h1).setD h2)⟩
theorem gb_tup3 {i j k : Nat} {a b c : D} : GB F (gTup F.K 3 (gCons (gName i) (gCons (gName j) (gCons (gName k) gNil)))) ks (.tup [a, b, c]) (((ks.set i (.dat a)).set j (.dat b)).set k (.dat c)) := fun M σ H v o h Q q => by
  cases h with
  | tup hs hd =>
    cases hd with
    | cons h1 hd =>
      cases hd with
      | cons h2 hd =>
        cases hd with
        | cons h3 hd =>
          cases hd
          exact ⟨_, _, rfl, same_t hid_same hs, rfl, _, _, rfl, _, _, rfl, _, _, rfl, rfl, q _ (((o.setD h1).setD h2).setD h3)⟩
/-! ### what is walked -/
structure ItOk (F : Fm) (J : It) (items : List D) (S : Hp → Prop) : Prop where
  mono : ∀ G G', Same G G' → S G → S G'
  go : ∀ M H i, S (hid M H) → i < items.length → J.go i H
  yld : ∀ M H i x H' d, (∀ a ∈ M, ∃ o, H a = some o) → S (hid M H) → items[i]? = some d → J.yld i H x H' → Same H H' ∧ At F.K (hid M H') x d
  stop : ∀ M H, S (hid M H) → J.stop items.length H
def EvIR (F : Fm) (ks : List Kd) (wi : TI) (RI : List D → Prop) : Prop := ∀ M σ H, Ok F ks M σ H → ∀ R : It → Hp → Prop, (∀ J S items H', Ok F ks M σ H' → Step ks σ H H' → RI items → ItOk F J items S → S (hid M H') → R J H') → wi σ H R
abbrev EvI (F : Fm) (ks : List Kd) (wi : TI) (items : List D) : Prop := EvIR F ks wi (fun x => x = items)
theorem itl_ok {K : PySem.W.Frag} (hK : K = F.K) {a : Addr} {ds : List D} : ItOk F (Itl K a) ds (fun G => ∃ xs, SqL F.K G a xs ∧ Ats F.K G xs ds) where
  mono := fun G G' e ⟨xs, h1, h2⟩ => ⟨xs, same_l e h1, h2.mono e⟩
  go := fun M H i ⟨xs, h1, h2⟩ l => by
    subst hK
    have l2 : i < xs.length := by rw [h2.length]; exact l
    exact ⟨xs, xs[i], same_l hid_same h1, List.getElem?_eq_getElem l2⟩
  yld := fun M H i x H' d _ ⟨xs, h1, h2⟩ e y => by
    subst hK
    obtain ⟨e1, y⟩ := y
    subst e1
    have g := y xs (same_l hid_same h1)
    obtain ⟨v, g1, g2⟩ := h2.get e
    rw [g] at g1
    cases g1
    exact ⟨Same.refl _, g2⟩
  stop := fun M H ⟨xs, h1, h2⟩ => by
    subst hK
    exact ⟨xs, same_l hid_same h1, by rw [h2.length]; exact Nat.le_refl _⟩
theorem itt_ok {K : PySem.W.Frag} (hK : K = F.K) {a : Addr} {ds : List D} : ItOk F (Itt K a) ds (fun G => ∃ xs, SqT F.K G a xs ∧ Ats F.K G xs ds) where
  mono := fun G G' e ⟨xs, h1, h2⟩ => ⟨xs, same_t e h1, h2.mono e⟩
  go := fun M H i ⟨xs, h1, h2⟩ l => by
    subst hK
    have l2 : i < xs.length := by rw [h2.length]; exact l
    exact ⟨xs, xs[i], same_t hid_same h1, List.getElem?_eq_getElem l2⟩
  yld := fun M H i x H' d _ ⟨xs, h1, h2⟩ e y => by
    subst hK
    obtain ⟨e1, y⟩ := y
    subst e1
    have g := y xs (same_t hid_same h1)
    obtain ⟨v, g1, g2⟩ := h2.get e
    rw [g] at g1
    cases g1
    exact ⟨Same.refl _, g2⟩
  stop := fun M H ⟨xs, h1, h2⟩ => by
    subst hK
    exact ⟨xs, same_t hid_same h1, by rw [h2.length]; exact Nat.le_refl _⟩
theorem ei_listR {te : TE} {RI : List D → Prop} (h : EvR F ks te (fun d => ∃ ds, RI ds ∧ d = .lst ds)) : EvIR F ks (iList F.K te) RI := fun M σ H o R q => h M σ H o _ fun v d H1 o1 s1 a1 ⟨ds, r1, e⟩ => by
  subst e
  cases a1 with
  | lst hl hs => exact ⟨_, rfl, ⟨_, .inl (.inl (hid_same _ _ hl))⟩, q _ _ ds H1 o1 s1 r1 (itl_ok rfl) ⟨_, .inl (.inl hl), hs⟩⟩
theorem ei_list {te : TE} {ds : List D} (h : Ev F ks te (.lst ds)) : EvI F ks (iList F.K te) ds := ei_listR (h.imp fun d e => ⟨ds, rfl, e⟩)
theorem ei_sls {te : TE} {ds : List D} (h : Ev F ks te (.sls ds)) : EvI F ks (iList F.K te) ds := fun M σ H o R q => h M σ H o _ fun v d H1 o1 s1 a1 e => by
  subst e
  cases a1 with
  | sls hl hs => exact ⟨_, rfl, ⟨_, same_l hid_same hl⟩, q _ _ ds H1 o1 s1 rfl (itl_ok rfl) ⟨_, hl, hs⟩⟩
theorem ei_tupR {te : TE} {RI : List D → Prop} (h : EvR F ks te (fun d => ∃ ds, RI ds ∧ d = .tup ds)) : EvIR F ks (iTup F.K te) RI := fun M σ H o R q => h M σ H o _ fun v d H1 o1 s1 a1 ⟨ds, r1, e⟩ => by
  subst e
  cases a1 with
  | tup hl hs => exact ⟨_, rfl, ⟨_, same_t hid_same hl⟩, q _ _ ds H1 o1 s1 r1 (itt_ok rfl) ⟨_, hl, hs⟩⟩
theorem ei_tup {te : TE} {ds : List D} (h : Ev F ks te (.tup ds)) : EvI F ks (iTup F.K te) ds := ei_tupR (h.imp fun d e => ⟨ds, rfl, e⟩)
/-- the numbers from lo on -/
def ups (lo : Int) (n : Nat) : List D := (List.range n).map fun k => .int (lo + (k : Nat))
theorem ups_length {lo : Int} {n : Nat} : (ups lo n).length = n := by unfold ups; rw [List.length_map, List.length_range]
theorem ups_get {lo : Int} {n i : Nat} {d : D} (h : (ups lo n)[i]? = some d) : i < n ∧ d = .int (lo + (i : Nat)) := by
  unfold ups at h
  rw [List.getElem?_map] at h
  by_cases l : i < n
  · rw [List.getElem?_range l] at h
    exact ⟨l, (Option.some.inj h).symm⟩
  · rw [List.getElem?_eq_none (by rw [List.length_range]; omega)] at h
    cases h
theorem itr_ok {lo : Int} {n : Nat} : ItOk F (Itr lo n) (ups lo n) (fun _ => True) where
  mono := fun _ _ _ h => h
  go := fun M H i _ l => by rw [ups_length] at l; exact l
  yld := fun M H i x H' d _ _ e y => by
    obtain ⟨e1, e2⟩ := y
    subst e1; subst e2
    rw [(ups_get e).2]
    exact ⟨Same.refl _, .int _⟩
  stop := fun M H _ => by rw [ups_length]; exact Nat.le_refl n
theorem ei_rng1R {ta : TA} {RI : List D → Prop} (h : EvAR F ks ta (fun ds => ∃ n : Int, ds = [.int n] ∧ -(2 ^ 62) ≤ n ∧ n < 2 ^ 62 ∧ RI (ups 0 n.toNat))) : EvIR F ks (iRng1 ta) RI := fun M σ H o R q => h M σ H o _ fun vs ds H1 o1 s1 a1 ⟨n, e, b1, b2, r1⟩ => by
  subst e
  have e2 := Ats.ints (ns := [n]) a1
  subst e2
  exact ⟨n, rfl, b1, b2, q _ _ _ H1 o1 s1 r1 itr_ok trivial⟩
theorem ei_rng1 {ta : TA} {n : Int} (h : EvA F ks ta [.int n]) (b : -(2 ^ 62) ≤ n ∧ n < 2 ^ 62) : EvI F ks (iRng1 ta) (ups 0 n.toNat) := ei_rng1R fun M σ H o Q q => h M σ H o Q fun vs ds H1 o1 s1 a1 e => q vs ds H1 o1 s1 a1 ⟨n, e, b.1, b.2, rfl⟩
theorem ei_rng2 {ta : TA} {lo hi : Int} (h : EvA F ks ta [.int lo, .int hi]) (b : -(2 ^ 62) ≤ lo ∧ lo < 2 ^ 62 ∧ -(2 ^ 62) ≤ hi ∧ hi < 2 ^ 62) : EvI F ks (iRng2 ta) (ups lo (hi - lo).toNat) := fun M σ H o R q => h M σ H o _ fun vs ds H1 o1 s1 a1 e => by
  subst e
  have e2 := Ats.ints (ns := [lo, hi]) a1
  subst e2
  exact ⟨lo, hi, rfl, b, q _ _ _ H1 o1 s1 rfl itr_ok trivial⟩
/-- pairs of zip -/
def zips (xs ys : List D) : List D := (xs.zip ys).map fun p => .tup [p.1, p.2]
theorem zips_length {xs ys : List D} : (zips xs ys).length = min xs.length ys.length := by unfold zips; rw [List.length_map, List.length_zip]
theorem zips_get {xs ys : List D} {i : Nat} {d : D} (h : (zips xs ys)[i]? = some d) : ∃ x y, xs[i]? = some x ∧ ys[i]? = some y ∧ d = .tup [x, y] := by
  unfold zips at h
  rw [List.getElem?_map] at h
  cases e : (xs.zip ys)[i]? with
  | none => rw [e] at h; cases h
  | some p =>
    rw [e] at h
    obtain ⟨h1, h2⟩ := List.getElem?_zip_eq_some.mp e
    exact ⟨p.1, p.2, h1, h2, (Option.some.inj h).symm⟩
theorem itz_ok {K : PySem.W.Frag} (hK : K = F.K) {a b : Addr} {xs ys : List D} : ItOk F (Itz K a b) (zips xs ys) (fun G => (∃ us, SqL F.K G a us ∧ Ats F.K G us xs) ∧ ∃ us, SqL F.K G b us ∧ Ats F.K G us ys) where
  mono := fun G G' e ⟨⟨us, h1, h2⟩, ws, h3, h4⟩ => ⟨⟨us, same_l e h1, h2.mono e⟩, ws, same_l e h3, h4.mono e⟩
  go := fun M H i ⟨⟨us, h1, h2⟩, ws, h3, h4⟩ l => by
    subst hK
    rw [zips_length] at l
    have l1 : i < us.length := by rw [h2.length]; omega
    have l2 : i < ws.length := by rw [h4.length]; omega
    exact ⟨us, ws, us[i], ws[i], same_l hid_same h1, same_l hid_same h3, List.getElem?_eq_getElem l1, List.getElem?_eq_getElem l2⟩
  yld := fun M H i v H' d lv ⟨⟨us, h1, h2⟩, ws, h3, h4⟩ e y => by
    subst hK
    obtain ⟨T, x, y', rfl, nT, rfl, f1, f2⟩ := y
    obtain ⟨dx, dy, e1, e2, e3⟩ := zips_get e
    obtain ⟨vx, g1, g2⟩ := h2.get e1
    obtain ⟨vy, g3, g4⟩ := h4.get e2
    have k1 := f1 us (same_l hid_same h1)
    have k2 := f2 ws (same_l hid_same h3)
    rw [g1] at k1
    rw [g3] at k2
    cases k1; cases k2
    have sm : Same H (upd H T (.tup [x, y'])) := same_new nT
    have nM : T ∉ M := fun z => by
      obtain ⟨u, q⟩ := lv T z
      rw [nT] at q; cases q
    subst e3
    exact ⟨sm, .tup (.inl (.inl (by rw [hid_out nM, upd_same]))) (.cons (g2.mono (hid_mono sm)) (.cons (g4.mono (hid_mono sm)) .nil))⟩
  stop := fun M H ⟨⟨us, h1, h2⟩, ws, h3, h4⟩ => by
    subst hK
    refine ⟨us, ws, same_l hid_same h1, same_l hid_same h3, ?_⟩
    rw [zips_length, h2.length, h4.length]
    omega
theorem itzT_ok {K : PySem.W.Frag} (hK : K = F.K) {a b : Addr} {xs ys : List D} : ItOk F (RZ.ItzT K a b) (zips xs ys) (fun G => (∃ us, SqT F.K G a us ∧ Ats F.K G us xs) ∧ ∃ us, SqT F.K G b us ∧ Ats F.K G us ys) where
  mono := fun G G' e ⟨⟨us, h1, h2⟩, ws, h3, h4⟩ => ⟨⟨us, same_t e h1, h2.mono e⟩, ws, same_t e h3, h4.mono e⟩
  go := fun M H i ⟨⟨us, h1, h2⟩, ws, h3, h4⟩ l => by
    subst hK
    rw [zips_length] at l
    have l1 : i < us.length := by rw [h2.length]; omega
    have l2 : i < ws.length := by rw [h4.length]; omega
    exact ⟨us, ws, us[i], ws[i], same_t hid_same h1, same_t hid_same h3, List.getElem?_eq_getElem l1, List.getElem?_eq_getElem l2⟩
  yld := fun M H i v H' d lv ⟨⟨us, h1, h2⟩, ws, h3, h4⟩ e y => by
    subst hK
    obtain ⟨T, x, y', rfl, nT, rfl, f1, f2⟩ := y
    obtain ⟨dx, dy, e1, e2, e3⟩ := zips_get e
    obtain ⟨vx, g1, g2⟩ := h2.get e1
    obtain ⟨vy, g3, g4⟩ := h4.get e2
    have k1 := f1 us (same_t hid_same h1)
    have k2 := f2 ws (same_t hid_same h3)
    rw [g1] at k1
    rw [g3] at k2
    cases k1; cases k2
    have sm : Same H (upd H T (.tup [x, y'])) := same_new nT
    have nM : T ∉ M := fun z => by
      obtain ⟨u, q⟩ := lv T z
      rw [nT] at q; cases q
    subst e3
    exact ⟨sm, .tup (.inl (.inl (by rw [hid_out nM, upd_same]))) (.cons (g2.mono (hid_mono sm)) (.cons (g4.mono (hid_mono sm)) .nil))⟩
  stop := fun M H ⟨⟨us, h1, h2⟩, ws, h3, h4⟩ => by
    subst hK
    refine ⟨us, ws, same_t hid_same h1, same_t hid_same h3, ?_⟩
    rw [zips_length, h2.length, h4.length]
    omega
theorem ei_zipL {ta : TA} {xs ys : List D} (h : EvA F ks ta [.lst xs, .lst ys]) : EvI F ks (RZ.iZipA F.K ta) (zips xs ys) := fun M σ H o R q => h M σ H o _ fun vs ds H1 o1 s1 a1 e => by
  subst e
  cases a1 with
  | cons a1 a2 =>
    cases a2 with
    | cons a2 a3 =>
      cases a3
      cases a1 with
      | lst hl hs =>
        cases a2 with
        | lst hl2 hs2 => exact ⟨_, _, _, _, rfl, .inl ⟨.inl (.inl (hid_same _ _ hl)), .inl (.inl (hid_same _ _ hl2)), q _ _ _ H1 o1 s1 rfl (itz_ok rfl) ⟨⟨_, .inl (.inl hl), hs⟩, _, .inl (.inl hl2), hs2⟩⟩⟩
theorem ei_zipT {ta : TA} {xs ys : List D} (h : EvA F ks ta [.tup xs, .tup ys]) : EvI F ks (RZ.iZipA F.K ta) (zips xs ys) := fun M σ H o R q => h M σ H o _ fun vs ds H1 o1 s1 a1 e => by
  subst e
  cases a1 with
  | cons a1 a2 =>
    cases a2 with
    | cons a2 a3 =>
      cases a3
      cases a1 with
      | tup hl hs =>
        cases a2 with
        | tup hl2 hs2 => exact ⟨_, _, _, _, rfl, .inr ⟨same_t hid_same hl, same_t hid_same hl2, q _ _ _ H1 o1 s1 rfl (itzT_ok rfl) ⟨⟨_, hl, hs⟩, _, hl2, hs2⟩⟩⟩
/-! ### statements -/
variable {E : Ends}
theorem run_seq {t u : TS} (h : Run F ks t { E with nx := u E }) : Run F ks (tSeq t u) E := h
theorem run_next (h : Cont F ks E.nx) : Run F ks tNext E := h
theorem run_asgR {te : TE} {i : Nat} {R : D → Prop} (h : EvR F ks te R) (c : ∀ d, R d → Cont F (ks.set i (.dat d)) E.nx) : Run F ks (tAsg te (gName i)) E := fun M σ H o => h M σ H o _ fun v d H1 o1 s1 a1 r1 => c d r1 M _ H1 (o1.setD a1)
theorem run_asg {te : TE} {i : Nat} {d : D} (h : Ev F ks te d) (c : Cont F (ks.set i (.dat d)) E.nx) : Run F ks (tAsg te (gName i)) E := run_asgR h fun e q => by rw [q]; exact c
theorem run_asgLR {te : TE} {i : Nat} {R : List D → Prop} (h : EvLR F ks te R) (c : Cont F (ks.set i (.own R)) E.nx) : Run F ks (tAsg te (gName i)) E := fun M σ H o => h M σ H o _ fun p vs ds H1 n o1 s1 l1 a1 r1 =>
  c _ _ H1 (o1.setO (o.noOwn n) (o.nstFresh s1 n) (fun z => o.fresh n (o.sup p z)) (o.baseNone n) l1 a1 r1)
theorem run_asgL {te : TE} {i : Nat} {ds : List D} (h : EvL F ks te ds) (c : Cont F (ks.set i (.own fun x => x = ds)) E.nx) : Run F ks (tAsg te (gName i)) E := run_asgLR h c
/-- x, y = e -/
theorem run_asgG {te : TE} {g : TG} {d : D} {ks' : List Kd} (h : Ev F ks te d) (hg : GB F g ks d ks') (c : Cont F ks' E.nx) : Run F ks (tAsg te g) E := fun M σ H o => h M σ H o _ fun v d H1 o1 s1 a1 r1 => by
  subst r1
  exact hg M σ H1 v o1 a1 _ fun σ' o2 => c M σ' H1 o2
theorem run_retR {te : TE} {R : D → Prop} (h : EvR F ks te R) (c : ∀ M v d σ H, Ok F ks M σ H → At F.K (hid M H) v d → R d → E.rt v H) : Run F ks (tRet te) E := fun M σ H o => h M σ H o _ fun v d H1 o1 s1 a1 r1 => c M v d σ H1 o1 a1 r1
theorem run_drop {te : TE} {R : D → Prop} (h : EvR F ks te R) (c : Cont F ks E.nx) : Run F ks (tDrop te) E := fun M σ H o => h M σ H o _ fun v d H1 o1 s1 a1 r1 => c M σ H1 o1
theorem run_ifR {tt : TT} {t u : TS} {R : Bool → Prop} (h : EvTR F ks tt R) (h1 : R true → Run F ks t E) (h2 : R false → Run F ks u E) : Run F ks (tIfS tt t u) E := fun M σ H o => h M σ H o _ fun b H1 o1 s1 r1 => by
  cases b with
  | true => exact h1 r1 M σ H1 o1
  | false => exact h2 r1 M σ H1 o1
theorem run_if {tt : TT} {t u : TS} {b : Bool} (h : EvT F ks tt b) (h1 : b = true → Run F ks t E) (h2 : b = false → Run F ks u E) : Run F ks (tIfS tt t u) E := run_ifR h (fun e => h1 e.symm) fun e => h2 e.symm
theorem run_brk (h : Cont F ks E.bk) : Run F ks tBreak E := h
theorem run_ct (h : Cont F ks E.ct) : Run F ks tCont E := h
def wishK : Kd → List D → Prop
  | .own φ => φ
  | .bor φ => φ
  | _ => fun _ => False
theorem Ok.wish (o : Ok F ks M σ H) {i : Nat} {k : Kd} (h : ks[i]? = some k) (m : isM k = true) : ∃ p, Has F M H σ[i]? p (wishK k) := by
  cases k with
  | any => cases m
  | dat d => cases m
  | nst _ => cases m
  | own φ =>
    obtain ⟨p, _, h1⟩ := o.own i φ h
    exact ⟨p, h1⟩
  | bor φ =>
    obtain ⟨p, _, h1⟩ := o.bor i φ h
    exact ⟨p, h1⟩
/-- xs.append(e) -/
theorem run_appR {te : TE} {i : Nat} {k : Kd} {R : D → Prop} (hk : ks[i]? = some k) (hm : isM k = true) (h : EvR F ks te R) (hz : ∀ ds, wishK k ds → ds.length < sizeLine) (c : Cont F (ks.set i (reK k fun x => ∃ ds d, wishK k ds ∧ R d ∧ x = ds ++ [d])) E.nx) :
    Run F ks (tDrop (tBM F.K "list" rAppend (tVar i) (tCons te tNil))) E := fun M σ H o => by
  obtain ⟨p, h1, h2, h3, vs, ds, h4, h5, h6⟩ := o.wish hk hm
  refine ⟨.ref p, h1, .inl ⟨rfl, vs, .inl (.inl h4)⟩, ?_⟩
  refine h M σ H o _ fun v d H1 o1 s1 a1 r1 => ?_
  obtain ⟨p', h1', h2', h3', vs', ds', h4', h5', h6'⟩ := o1.wish hk hm
  rw [h1] at h1'
  cases h1'
  refine ⟨p, vs', v, rfl, rfl, h4', by rw [h5'.length]; exact hz _ h6', ?_⟩
  exact c M σ _ (o1.putO hk hm h1 (h5'.append (.cons a1 .nil)) ⟨ds', d, h6', r1, rfl⟩)
theorem run_app {te : TE} {i : Nat} {ds : List D} {d : D} (hk : ks[i]? = some (.own fun x => x = ds)) (h : Ev F ks te d) (hz : ds.length < sizeLine) (c : Cont F (ks.set i (.own fun x => x = ds ++ [d])) E.nx) :
    Run F ks (tDrop (tBM F.K "list" rAppend (tVar i) (tCons te tNil))) E := run_appR hk rfl h (fun es e => by rw [show es = ds from e]; exact hz) fun M σ H o => c M σ H (o.weak ⟨by rw [List.length_set, List.length_set], fun j k k' e1 e2 => by
  rcases getK e1 with ⟨rfl, _, q⟩ | ⟨n, q⟩
  · rcases getK e2 with ⟨_, _, q2⟩ | ⟨n2, _⟩
    · subst q; subst q2
      exact fun x ⟨es, e, r1, r2, r3⟩ => by rw [r3, show es = ds from r1, r2]
    · exact absurd rfl n2
  · rcases getK e2 with ⟨z, _, _⟩ | ⟨_, q2⟩
    · exact absurd z n
    · rw [q] at q2
      cases q2
      exact KLe.refl k⟩)
/-- xs[j] = e -/
theorem run_setR {te ti : TE} {i : Nat} {k : Kd} {R : D → Prop} {Ri : Int → Prop} (hk : ks[i]? = some k) (hm : isM k = true) (h : EvR F ks te R) (hi : EvR F ks ti (fun d => ∃ j, Ri j ∧ d = .int j)) {ψ : List D → Prop}
    (hz : ∀ ds d j, wishK k ds → R d → Ri j → ∃ m, ixN ds.length j = some m ∧ ψ (ds.set m d)) (c : Cont F (ks.set i (reK k ψ)) E.nx) :
    Run F ks (tAsg te (gSub (tVar i) ti rSetL)) E := fun M σ H o => h M σ H o _ fun v d H1 o1 s1 a1 r1 => by
  obtain ⟨p, h1, h2, h3, vs, ds, h4, h5, h6⟩ := o1.wish hk hm
  refine ⟨.ref p, h1, ?_⟩
  refine hi M σ H1 o1 _ fun u e H2 o2 s2 a2 ⟨j, r2, e2⟩ => ?_
  subst e2
  cases a2
  obtain ⟨p', h1', h2', h3', vs', ds', h4', h5', h6'⟩ := o2.wish hk hm
  rw [h1] at h1'
  cases h1'
  obtain ⟨m, g1, g2⟩ := hz ds' d j h6' r1 r2
  refine ⟨p, vs', j, m, rfl, rfl, h4', by rw [h5'.length]; exact g1, ?_⟩
  exact c M σ _ (o2.putO hk hm h1 (h5'.set m (a1.mono (o1.hidStep s2))) g2)
theorem cont_own {i : Nat} {φ ψ : List D → Prop} {N : Sg → Hp → Prop} (w : ∀ x, φ x → ψ x) (c : Cont F (ks.set i (.own ψ)) N) : Cont F (ks.set i (.own φ)) N := fun M σ H o => c M σ H (o.weak ⟨by rw [List.length_set, List.length_set], fun j k k' e1 e2 => by
  rcases getK e1 with ⟨rfl, _, q⟩ | ⟨n, q⟩
  · rcases getK e2 with ⟨_, _, q2⟩ | ⟨n2, _⟩
    · subst q; subst q2
      exact w
    · exact absurd rfl n2
  · rcases getK e2 with ⟨z, _, _⟩ | ⟨_, q2⟩
    · exact absurd z n
    · rw [q] at q2
      cases q2
      exact KLe.refl k⟩)
theorem run_set {te ti : TE} {i m : Nat} {ds : List D} {d : D} {j : Int} (hk : ks[i]? = some (.own fun x => x = ds)) (h : Ev F ks te d) (hi : Ev F ks ti (.int j)) (hz : ixN ds.length j = some m) (c : Cont F (ks.set i (.own fun x => x = ds.set m d)) E.nx) :
    Run F ks (tAsg te (gSub (tVar i) ti rSetL)) E := run_setR (ψ := fun x => x = ds.set m d) (Ri := fun x => x = j) hk rfl h (hi.imp fun e q => ⟨j, rfl, q⟩) (fun es e l e1 e2 e3 => by
  rw [show es = ds from e1, e2, e3]
  exact ⟨m, hz, rfl⟩) c
/-- x = xs.pop(j) -/
theorem run_pop {ti : TE} {i x m : Nat} {ds : List D} {d : D} {j : Int} (hk : ks[i]? = some (.own fun x => x = ds)) (hi : Ev F ks ti (.int j)) (hj : j = (m : Int)) (hm : m < 2 ^ 62) (hd : ds[m]? = some d) (c : Cont F ((ks.set i (.own fun x => x = ds.eraseIdx m)).set x (.dat d)) E.nx) :
    Run F ks (tAsg (tBM F.K "list" rPopAt (tVar i) (tCons ti tNil)) (gName x)) E := fun M σ H o => by
  obtain ⟨p, h1, h2, h3, vs, es, h4, h5, h6⟩ := o.wish hk rfl
  refine ⟨.ref p, h1, .inl ⟨rfl, vs, .inl (.inl h4)⟩, ?_⟩
  refine hi M σ H o _ fun v e H1 o1 s1 a1 r1 => ?_
  subst r1
  cases a1
  obtain ⟨p', h1', h2', h3', vs', ds', h4', h5', h6'⟩ := o1.wish hk rfl
  rw [h1] at h1'
  cases h1'
  cases (show ds' = ds from h6')
  obtain ⟨u, g1, g2⟩ := h5'.get hd
  have l : m < vs'.length := (List.getElem?_eq_some_iff.mp g1).1
  subst hj
  refine ⟨p, vs', (m : Int), m, u, rfl, rfl, h4', by omega, by omega, ?_, g1, ?_⟩
  · rw [seqIndex_of (by omega) (by omega)]
    simp
  · have o2 := o1.putO hk rfl h1 (ψ := fun x => x = ds.eraseIdx m) (h5'.eraseIdx m) rfl
    refine c M _ _ (o2.setD ?_)
    rw [hid_upd h2']
    exact g2
/-! ### loops -/
structure Sub (F : Fm) (B G : Hp) : Prop where
  b : Same F.B B
  g : Same F.G G
theorem Ok.lift {B G : Hp} (w : Sub F B G) (o : Ok { F with B := B, G := G } ks M σ H) : Ok F ks M σ H where
  len := o.len
  dat := o.dat
  own := fun i φ h => by
    obtain ⟨p, h1, h2, h3, h4, h5⟩ := o.own i φ h
    refine ⟨p, h1, h2, h3, ?_, h5⟩
    cases e : F.B p with
    | none => rfl
    | some u =>
      have := w.b _ _ e
      rw [show B p = none from h4] at this
      cases this
  bor := fun i φ h => by
    obtain ⟨p, h1, h2, h3, h4, h5⟩ := o.bor i φ h
    refine ⟨p, h1, h2, h3, ?_, h5⟩
    cases e : F.B p with
    | none => rfl
    | some u =>
      have := w.b _ _ e
      rw [show B p = none from h4] at this
      cases this
  inj := o.inj
  nst := fun i φ h => by
    obtain ⟨p, qs, h1, h2⟩ := o.nst i φ h
    refine ⟨p, qs, h1.to rfl rfl (fun a ha => ⟨(h1.mem a ha).1, (h1.mem a ha).2.1, ?_⟩) (fun _ _ _ h => h) (Same.refl _) (fun _ r => r), h2⟩
    cases e : F.B a with
    | none => rfl
    | some u =>
      have := w.b _ _ e
      rw [show B a = none from (h1.mem a ha).2.2] at this
      cases this
  one := o.one
  base := w.b.trans o.base
  vis := w.g.trans o.vis
  sup := o.sup
  live := o.live
theorem Cont.sub {B G : Hp} {N : Sg → Hp → Prop} (w : Sub F B G) (h : Cont F ks N) : Cont { F with B := B, G := G } ks N := fun M σ H o => h M σ H (o.lift w)
/-- the heap without what may change -/
noncomputable def solid (ks : List Kd) (σ : Sg) (H : Hp) : Hp := fun a => open Classical in if OwnA ks σ a ∨ NstA ks σ H a then none else H a
theorem solid_same : Same (solid ks σ H) H := fun a o h => by
  unfold solid at h
  split at h
  · cases h
  · exact h
theorem Ok.tight (o : Ok F ks M σ H) : Sub F (solid ks σ H) (hid M H) ∧ Ok { F with B := solid ks σ H, G := hid M H } ks M σ H := by
  have sb : Same F.B (solid ks σ H) := fun a u h => by
    unfold solid
    rw [if_neg]
    · exact o.base _ _ h
    · rintro (⟨i, k, h1, h2, h3⟩ | z)
      · obtain ⟨p, φ, g1, g2, g3, _⟩ := o.mAt h1 h2
        rw [h3] at g1
        cases g1
        rw [g3] at h
        cases h
      · rw [(o.nstSome z).2.2.1] at h
        cases h
  have so : ∀ {i : Nat} {k : Kd} {p : Addr}, ks[i]? = some k → isM k = true → σ[i]? = some (some (.ref p)) → solid ks σ H p = none := fun {i k p} h1 h2 h3 => by
    unfold solid
    rw [if_pos (.inl ⟨i, k, h1, h2, h3⟩)]
  refine ⟨⟨sb, o.vis⟩, o.len, o.dat, fun i φ h => ?_, fun i φ h => ?_, o.inj, fun i φ h => ?_, o.one, solid_same, Same.refl _, o.sup, o.live⟩
  · obtain ⟨p, h1, h2, h3, h4, h5⟩ := o.own i φ h
    exact ⟨p, h1, h2, h3, so h rfl h2, h5⟩
  · obtain ⟨p, h1, h2, h3, h4, h5⟩ := o.bor i φ h
    exact ⟨p, h1, h2, h3, so h rfl h2, h5⟩
  · obtain ⟨p, qs, h1, h2⟩ := o.nst i φ h
    refine ⟨p, qs, h1.to rfl rfl (fun a ha => ⟨(h1.mem a ha).1, (h1.mem a ha).2.1, ?_⟩) (fun _ _ _ h => h) (Same.refl _) (fun _ r => r), h2⟩
    show solid ks σ H a = none
    unfold solid
    rw [if_pos (.inr (h1.nstA h ha))]
/-- one of the contexts that I tells -/
def Nx (F : Fm) (I : List Kd → Prop) : Sg → Hp → Prop := fun σ H => ∃ ks M, I ks ∧ Ok F ks M σ H
theorem cont_nx {I : List Kd → Prop} (h : I ks) : Cont F ks (Nx F I) := fun M σ H o => ⟨ks, M, h, o⟩
theorem run_forR {wi : TI} {g : TG} {tb : TS} {RI : List D → Prop} (hi : EvIR F ks wi RI) (I : List D → Nat → List Kd → Prop) (h0 : ∀ items, RI items → I items 0 ks)
    (hs : ∀ items i d ks', RI items → items[i]? = some d → I items i ks' → ∀ B G, Sub F B G → ∃ ks'', GB { F with B := B, G := G } g ks' d ks'' ∧
      Run { F with B := B, G := G } ks'' tb { E with nx := Nx { F with B := B, G := G } (I items (i + 1)), ct := Nx { F with B := B, G := G } (I items (i + 1)), bk := E.nx })
    (hd : ∀ items ks', RI items → I items items.length ks' → Cont F ks' E.nx) : Run F ks (tFor wi g tb) E := fun M σ H o => by
  refine hi M σ H o _ fun J S items H1 o1 s1 r1 it s0 => ?_
  obtain ⟨w, o2⟩ := o1.tight
  refine ⟨fun i m σ' H' => m = items.length - i ∧ i ≤ items.length ∧ Nx { F with B := solid ks σ H1, G := hid M H1 } (I items i) σ' H', ⟨items.length, rfl, Nat.zero_le _, ks, M, h0 items r1, o2⟩, ?_⟩
  rintro i m σ' H' ⟨rfl, hle, ks', M', hI, o'⟩
  have hS : S (hid M' H') := it.mono _ _ o'.vis s0
  by_cases hlt : i < items.length
  · refine .inr ⟨it.go M' H' i hS hlt, Nx { F with B := solid ks σ H1, G := hid M H1 } (I items (i + 1)), fun σ2 H2 n => ⟨items.length - (i + 1), by omega, rfl, hlt, n⟩, fun x H2 y => ?_⟩
    have e : items[i]? = some items[i] := List.getElem?_eq_getElem hlt
    obtain ⟨sm, a⟩ := it.yld M' H' i x H2 _ o'.live hS e y
    obtain ⟨ks'', hg, hr⟩ := hs items i _ ks' r1 e hI _ _ w
    exact hg M' σ' H2 x (o'.same sm) a _ fun σ2 o3 => hr M' σ2 H2 o3
  · have e : i = items.length := by omega
    subst e
    exact .inl ⟨it.stop M' H' hS, hd items ks' r1 hI M' σ' H' (o'.lift w)⟩
/-- deterministic: the context at each turn -/
theorem run_for {wi : TI} {g : TG} {tb : TS} {items : List D} (hi : EvI F ks wi items) (K : Nat → List Kd) (h0 : KsLe ks (K 0))
    (hs : ∀ i d, items[i]? = some d → ∀ B G, Sub F B G → ∃ ks'', GB { F with B := B, G := G } g (K i) d ks'' ∧
      Run { F with B := B, G := G } ks'' tb { E with nx := Nx { F with B := B, G := G } (fun x => x = K (i + 1)), ct := Nx { F with B := B, G := G } (fun x => x = K (i + 1)), bk := E.nx })
    (hd : Cont F (K items.length) E.nx) : Run F ks (tFor wi g tb) E := by
  have hi' : EvIR F (K 0) wi (fun x => x = items) → Run F (K 0) (tFor wi g tb) E := fun hi => run_forR hi (fun _ i x => x = K i) (fun _ _ => rfl) (fun it i d ks' e h q B G w => by
    subst e; subst q
    exact hs i d h B G w) fun it ks' e q => by
      subst e; subst q
      exact hd
  intro M σ H o
  refine hi M σ H o _ fun J S its H1 o1 s1 r1 it s0 => ?_
  have o1' := o1.weak h0
  subst r1
  obtain ⟨w, o2⟩ := o1'.tight
  refine ⟨fun i m σ' H' => m = its.length - i ∧ i ≤ its.length ∧ Nx { F with B := solid (K 0) σ H1, G := hid M H1 } (fun x => x = K i) σ' H', ⟨its.length, rfl, Nat.zero_le _, K 0, M, rfl, o2⟩, ?_⟩
  rintro i m σ' H' ⟨rfl, hle, ks', M', hI, o'⟩
  subst hI
  have hS : S (hid M' H') := it.mono _ _ o'.vis s0
  by_cases hlt : i < its.length
  · refine .inr ⟨it.go M' H' i hS hlt, Nx { F with B := solid (K 0) σ H1, G := hid M H1 } (fun x => x = K (i + 1)), fun σ2 H2 n => ⟨its.length - (i + 1), by omega, rfl, hlt, n⟩, fun x H2 y => ?_⟩
    have e : its[i]? = some its[i] := List.getElem?_eq_getElem hlt
    obtain ⟨sm, a⟩ := it.yld M' H' i x H2 _ o'.live hS e y
    obtain ⟨ks'', hg, hr⟩ := hs i _ e _ _ w
    exact hg M' σ' H2 x (o'.same sm) a _ fun σ2 o3 => hr M' σ2 H2 o3
  · have e : i = its.length := by omega
    subst e
    exact .inl ⟨it.stop M' H' hS, hd M' σ' H' (o'.lift w)⟩
/-- while -/
theorem run_while {c : TT} {tb : TS} (I : Nat → List Kd → Prop) (n0 : Nat) (h0 : I n0 ks) (b : List Kd → Bool) (ht : ∀ n ks', I n ks' → EvT F ks' c (b ks'))
    (hs : ∀ n ks', I n ks' → b ks' = true → Run F ks' tb { E with nx := Nx F (fun k => ∃ m, m < n ∧ I m k), ct := Nx F (fun k => ∃ m, m < n ∧ I m k), bk := E.nx })
    (hd : ∀ n ks', I n ks' → b ks' = false → Cont F ks' E.nx) : Run F ks (tWhile c tb) E := fun M σ H o => by
  refine ⟨fun m σ' H' => Nx F (I m) σ' H', ⟨n0, ks, M, h0, o⟩, ?_⟩
  rintro m σ' H' ⟨ks', M', hI, o'⟩
  refine ht m ks' hI M' σ' H' o' _ fun c H2 o2 s2 e => ?_
  subst e
  cases e : b ks' with
  | true =>
    refine ⟨Nx F (fun k => ∃ j, j < m ∧ I j k), fun σ3 H3 ⟨k3, M3, ⟨j, hj, hI3⟩, o3⟩ => ⟨j, hj, k3, M3, hI3, o3⟩, ?_⟩
    exact hs m ks' hI e M' σ' H2 o2
  | false => exact hd m ks' hI e M' σ' H2 o2
end
end Dl
set_option Elab.async false
set_option linter.all false
set_option maxRecDepth 100000
set_option maxHeartbeats 4000000
/-! Dl4: comprehensions, slices. -/
namespace Dl
open PySem PySem.Spec PyProof.Rows L2
section
variable {F : Fm} {ks : List Kd} {M : List Addr} {σ : Sg} {H H' : Hp}
/-- a block's own names are bound: the lists that may change stay those they were -/
def Rel (ks : List Kd) (σ : Sg) (ks'' : List Kd) (σ' : Sg) : Prop := ∀ (j : Nat) (k : Kd), ks''[j]? = some k → isT k = true → ks[j]? = some k ∧ σ'[j]? = σ[j]?
def GW (F : Fm) (g : TG) (vs : List Nat) (ks : List Kd) (d : D) (ks'' : List Kd) : Prop := ∀ M σ H v, Ok F ks M σ H → At F.K (hid M H) v d → ∀ Q : Sg → Hp → Prop, (∀ σ', Ok F ks'' M σ' H → wipe σ' vs = wipe σ vs → Rel ks σ ks'' σ' → Q σ' H) → g v (wipe σ vs) H Q
theorem Rel.own {ks'' : List Kd} {σ' : Sg} (r : Rel ks σ ks'' σ') {a : Addr} (h : OwnA ks'' σ' a) : OwnA ks σ a := by
  obtain ⟨i, k, h1, h2, h3⟩ := h
  obtain ⟨g1, g2⟩ := r i k h1 (isT_of h2)
  exact ⟨i, k, g1, h2, by rw [← g2]; exact h3⟩
theorem Rel.nst {ks'' : List Kd} {σ' : Sg} (r : Rel ks σ ks'' σ') {a : Addr} {H : Hp} (h : NstA ks'' σ' H a) : NstA ks σ H a := by
  obtain ⟨i, φ, p, qs, h1, h2, h3, h4⟩ := h
  obtain ⟨g1, g2⟩ := r i _ h1 rfl
  exact ⟨i, φ, p, qs, g1, by rw [← g2]; exact h2, h3, h4⟩
theorem Rel.trans {ks1 ks2 : List Kd} {σ1 σ2 : Sg} (a : Rel ks σ ks1 σ1) (b : Rel ks1 σ1 ks2 σ2) : Rel ks σ ks2 σ2 := fun j k h1 h2 => by
  obtain ⟨g1, g2⟩ := b j k h1 h2
  obtain ⟨g3, g4⟩ := a j k g1 h2
  exact ⟨g3, g2.trans g4⟩
theorem Ok.back {ks'' : List Kd} {σ' : Sg} (o : Ok F ks M σ H) (o2 : Ok F ks'' M σ' H') (st : Step ks'' σ' H H') (r : Rel ks σ ks'' σ') : Ok F ks M σ H' := by
  have ow : ∀ a, OwnA ks'' σ' a → a ∈ M := fun a h => o.ownM (r.own h)
  have hs : Same (hid M H) (hid M H') := fun a u h => by
    obtain ⟨h1, h2⟩ := hid_some h
    rw [hid_out h1]
    exact st a u h2 fun z => h1 (ow a z)
  have has : ∀ (i : Nat) (k : Kd) (p : Addr), ks[i]? = some k → isM k = true → Has F M H σ[i]? p (wishK k) → Has F M H' σ[i]? p (wishK k) := fun i k p e m h => by
    by_cases q : OwnA ks'' σ' p
    · obtain ⟨j, k', e2, m2, s2⟩ := q
      obtain ⟨g1, g2⟩ := r j k' e2 (isT_of m2)
      have ij : i = j := o.inj i j k k' p e g1 m m2 h.1 (by rw [← g2]; exact s2)
      subst ij
      rw [e] at g1
      cases g1
      obtain ⟨p2, hp⟩ := o2.wish e2 m2
      have ep : p2 = p := by
        have := hp.1
        rw [s2] at this
        cases this
        rfl
      subst ep
      exact hp.at g2.symm
    · obtain ⟨h1, h2, h3, vs, ds, h4, h5, h6⟩ := h
      exact ⟨h1, h2, h3, vs, ds, st _ _ h4 q, h5.mono hs, h6⟩
  have hN : ∀ (i : Nat) (χ : List (List D) → Prop), ks[i]? = some (.nst χ) → ∃ p qs, Nes F M H' σ[i]? p qs χ ∧ ∀ a ∈ p :: qs, ¬ OwnA ks σ a := fun i χ e => by
    obtain ⟨p, qs, h1, h2⟩ := o.nst i χ e
    exact ⟨p, qs, h1.to rfl rfl h1.mem (fun a ha u g => st a u g fun z => h2 a ha (r.own z)) hs (fun _ r => r), h2⟩
  refine ⟨o.len, fun i d e => ?_, fun i φ e => ?_, fun i φ e => ?_, o.inj, hN, o.one, o2.base, o.vis.trans hs, o.sup, o2.live⟩
  · obtain ⟨v, h1, h2⟩ := o.dat i d e
    exact ⟨v, h1, h2.mono hs⟩
  · obtain ⟨p, h1, h2⟩ := o.own i φ e
    exact ⟨p, h1, has i (.own φ) p e rfl h2⟩
  · obtain ⟨p, h1, h2⟩ := o.bor i φ e
    exact ⟨p, h1, has i (.bor φ) p e rfl h2⟩
theorem gw_name {i : Nat} {d : D} : GW F (gName i) [i] ks d (ks.set i (.dat d)) := fun M σ H v o a Q q => by
  show Q ((σ.set i none).set i (some v)) H
  rw [List.set_set]
  refine q _ (o.setD a) ?_ fun j k h1 h2 => ?_
  · show (σ.set i (some v)).set i none = σ.set i none
    rw [List.set_set]
  · rcases getK h1 with ⟨rfl, l, z⟩ | ⟨n, z⟩
    · rw [← z] at h2; cases h2
    · exact ⟨z, List.getElem?_set_ne n⟩
theorem set4 {α : Type} (l : List α) (i j : Nat) (a b c : α) : (((((l.set j a).set i a).set i b).set j c).set j a).set i a = (l.set j a).set i a := by
  apply List.ext_getElem?
  intro k
  simp only [List.getElem?_set, List.length_set]
  by_cases e1 : i = k
  · by_cases e2 : j = k
    · simp [e1, e2]
    · simp [e1]
  · by_cases e2 : j = k
    · simp [e1, e2]
    · simp [e1, e2]
theorem gw_tup2 {i j : Nat} {a b : D} : GW F (gTup F.K 2 (gCons (gName i) (gCons (gName j) gNil))) [i, j] ks (.tup [a, b]) ((((ks.set j .any).set i .any).set i (.dat a)).set j (.dat b)) := fun M σ H v o h Q q => by
  cases h with
  | tup hs hd =>
    cases hd with
    | cons h1 hd =>
      cases hd with
      | cons h2 hd =>
        cases hd
        rename_i v1 v2
        refine ⟨_, _, rfl, same_t hid_same hs, rfl, _, _, rfl, _, _, rfl, rfl, ?_⟩
        show Q ((((σ.set j none).set i none).set i (some v1)).set j (some v2)) H
        refine q _ ((((o.setA (i := j) (v := none)).setA (i := i) (v := none)).setD h1).setD h2) ?_ fun m k g1 g2 => ?_
        · show (((((σ.set j none).set i none).set i (some v1)).set j (some v2)).set j none).set i none = (σ.set j none).set i none
          exact set4 σ i j none (some v1) (some v2)
        · rcases getK g1 with ⟨rfl, l, z⟩ | ⟨n, z⟩
          · rw [← z] at g2; cases g2
          · rcases getK z with ⟨rfl, l, z⟩ | ⟨n2, z⟩
            · rw [← z] at g2; cases g2
            · rcases getK z with ⟨e, l, z⟩ | ⟨n3, z⟩
              · exact absurd e n2
              · rcases getK z with ⟨e, l, z⟩ | ⟨n4, z⟩
                · exact absurd e n
                · exact ⟨z, by rw [List.getElem?_set_ne n, List.getElem?_set_ne n2, List.getElem?_set_ne n2, List.getElem?_set_ne n]⟩
theorem et_yes : EvT F ks tYes true := fun M σ H o Q q => q true H o .refl rfl
/-- the list that a comprehension fills, at turn i -/
structure Fill (F : Fm) (ks : List Kd) (M : List Addr) (σ : Sg) (H1 : Hp) (p : Addr) (P : List D → Prop) (H : Hp) : Prop where
  ok : Ok F ks (p :: M) σ H
  st : Step ks σ H1 H
  vis : Same (hid M H1) (hid (p :: M) H)
  acc : ∃ vs ds, H p = some (.lst vs) ∧ Ats F.K (hid (p :: M) H) vs ds ∧ P ds
theorem Fill.start {p : Addr} {P : List D → Prop} (o : Ok F ks M σ H) (n : H p = none) (h : P []) : Fill F ks M σ H p P (upd H p (.lst [])) :=
  ⟨o.hide n, .of (same_new n), by rw [hid_new n]; exact Same.refl _, [], [], upd_same, .nil, h⟩
theorem Fill.done {p : Addr} {P : List D → Prop} {H1 : Hp} (f : Fill F ks M σ H1 p P H) {Q : VK} (q : ∀ vs ds, Ok F ks (p :: M) σ H → Step ks σ H1 H → H p = some (.lst vs) → Ats F.K (hid (p :: M) H) vs ds → P ds → Q (.ref p) H) : Q (.ref p) H := by
  obtain ⟨vs, ds, h1, h2, h3⟩ := f.acc
  exact q vs ds f.ok f.st h1 h2 h3
/-- the turn's work under the block's names leaves the list alone -/
theorem Fill.after {p : Addr} {P : List D → Prop} {H1 H2 H3 : Hp} {ks'' : List Kd} {σ' : Sg} (nO : ¬ OwnA ks σ p) (f : Fill F ks M σ H1 p P H) (s0 : Same H H2) (r : Rel ks σ ks'' σ') (o3 : Ok F ks'' (p :: M) σ' H3) (st : Step ks'' σ' H2 H3) : Fill F ks M σ H1 p P H3 := by
  obtain ⟨vs, ds, h1, h2, h3⟩ := f.acc
  have st0 : Step ks'' σ' H H3 := (Step.of s0).trans st
  have np : ¬ OwnA ks'' σ' p := fun z => nO (r.own z)
  have hs : Same (hid (p :: M) H) (hid (p :: M) H3) := fun b u h => by
    obtain ⟨g1, g2⟩ := hid_some h
    rw [hid_out g1]
    exact st0 b u g2 fun z => g1 (f.ok.ownM (r.own z))
  exact ⟨f.ok.back o3 st0 r, fun b u h n => st0 b u (f.st b u h n) fun z => n (r.own z), f.vis.trans hs, vs, ds, st0 _ _ h1 np, h2.mono hs, h3⟩
theorem Fill.push {p : Addr} {P : List D → Prop} {H1 : Hp} {y : V} {e : D} (o1 : Ok F ks M σ H1) (nO : ¬ OwnA ks σ p) (nB : F.B p = none) (n1 : H1 p = none) (f : Fill F ks M σ H1 p P H) (a : At F.K (hid (p :: M) H) y e)
    {P' : List D → Prop} (hP : ∀ ds, P ds → ds.length < sizeLine ∧ P' (ds ++ [e])) : ∃ acc, H p = some (.lst acc) ∧ acc.length < sizeLine ∧ Fill F ks M σ H1 p P' (upd H p (.lst (acc ++ [y]))) := by
  obtain ⟨vs, ds, h1, h2, h3⟩ := f.acc
  refine ⟨vs, h1, by rw [h2.length]; exact (hP ds h3).1, f.ok.put List.mem_cons_self nB nO (o1.nstFresh f.st n1), fun b u h n => ?_, ?_, vs ++ [y], ds ++ [e], upd_same, ?_, (hP ds h3).2⟩
  · rw [upd_ne (ne_of_none h n1)]
    exact f.st b u h n
  · rw [hid_upd List.mem_cons_self]
    exact f.vis
  · rw [hid_upd List.mem_cons_self]
    exact h2.append (.cons a .nil)
theorem Fill.imp {p : Addr} {P P' : List D → Prop} {H1 : Hp} (f : Fill F ks M σ H1 p P H) (i : ∀ ds, P ds → P' ds) : Fill F ks M σ H1 p P' H := by
  obtain ⟨vs, ds, h1, h2, h3⟩ := f.acc
  exact ⟨f.ok, f.st, f.vis, vs, ds, h1, h2, i _ h3⟩
/-- [e for x in xs if t] -/
theorem el_lcR {wi : TI} {g : TG} {tt : TT} {te : TE} {vs : List Nat} {RI : List D → Prop} (hi : EvIR F ks wi RI) (P : List D → Nat → List D → Prop) (h0 : ∀ items, RI items → P items 0 [])
    (hs : ∀ items i d, RI items → items[i]? = some d → ∃ ks'', GW F g vs ks d ks'' ∧ ∃ Rb : Bool → Prop, EvTR F ks'' tt Rb ∧ (Rb false → ∀ acc, P items i acc → P items (i + 1) acc) ∧
      (Rb true → ∃ R, EvR F ks'' te R ∧ ∀ acc e, P items i acc → R e → acc.length < sizeLine ∧ P items (i + 1) (acc ++ [e]))) :
    EvLR F ks (tLc wi g tt te vs) (fun ds => ∃ items, RI items ∧ P items items.length ds) := fun M σ H o Q q => by
  refine hi M σ H o _ fun J S items H1 o1 s1 r1 it sS p n => ?_
  have nO := o1.noOwn n
  have nB := o1.baseNone n
  refine ⟨fun i m H' => m = items.length - i ∧ i ≤ items.length ∧ Fill F ks M σ H1 p (P items i) H', ⟨items.length, rfl, Nat.zero_le _, Fill.start o1 n (h0 items r1)⟩, ?_⟩
  rintro i m H' ⟨rfl, hle, f⟩
  have hS : S (hid (p :: M) H') := it.mono _ _ f.vis sS
  by_cases hlt : i < items.length
  · refine .inr ⟨it.go (p :: M) H' i hS hlt, fun H'' => Fill F ks M σ H1 p (P items (i + 1)) H'', fun H2 n => ⟨items.length - (i + 1), by omega, rfl, hlt, n⟩, fun x H2 y => ?_⟩
    have e : items[i]? = some items[i] := List.getElem?_eq_getElem hlt
    obtain ⟨sm, a⟩ := it.yld (p :: M) H' i x H2 _ f.ok.live hS e y
    obtain ⟨ks'', hg, Rb, ht, hf, hT⟩ := hs items i _ r1 e
    refine hg (p :: M) σ H2 x (f.ok.same sm) a _ fun σ' o3 w r => ⟨w, ?_⟩
    refine ht (p :: M) σ' H2 o3 _ fun b H3 o4 s4 rb => ?_
    cases b with
    | false =>
      rw [if_neg Bool.false_ne_true]
      exact (f.after nO sm r o4 s4).imp (hf rb)
    | true =>
      rw [if_pos rfl]
      obtain ⟨R, he, hR⟩ := hT rb
      refine he (p :: M) σ' H3 o4 _ fun z d H4 o5 s5 a5 r5 => ?_
      exact (f.after nO sm r o5 (s4.trans s5)).push o1 nO nB n a5 fun ds h => hR ds d h r5
  · have e : i = items.length := by omega
    subst e
    refine .inl ⟨it.stop (p :: M) H' hS, f.done fun vs ds o2 s2 l2 a2 h2 => ?_⟩
    exact q p vs ds H' (by
      cases e : H p with
      | none => rfl
      | some u =>
        rw [s1 _ _ e nO] at n
        cases n) o2 (s1.trans s2) l2 a2 ⟨items, r1, h2⟩
theorem paired_append {α β : Type} {R : α → β → Prop} : ∀ {as cs : List α} {bs ds : List β}, Paired R as bs → Paired R cs ds → Paired R (as ++ cs) (bs ++ ds)
  | _, _, _, _, .nil, h => h
  | _, _, _, _, .cons a b, h => .cons a (paired_append b h)
/-- one by one, each item as told -/
theorem el_mapR {α : Type} {wi : TI} {g : TG} {te : TE} {vs : List Nat} {xs : List α} {enc : α → D} {R : α → D → Prop} (hi : EvI F ks wi (xs.map enc)) (hz : xs.length ≤ sizeLine)
    (hs : ∀ x ∈ xs, ∃ ks'', GW F g vs ks (enc x) ks'' ∧ EvR F ks'' te (R x)) : EvLR F ks (tLc wi g tYes te vs) (fun ds => Paired R xs ds) :=
  (el_lcR hi (fun _ i acc => Paired R (xs.take i) acc) (fun _ _ => by rw [List.take_zero]; exact .nil) fun items i d e h => by
    subst e
    rw [List.getElem?_map] at h
    cases e2 : xs[i]? with
    | none => rw [e2] at h; cases h
    | some x =>
      rw [e2] at h
      cases h
      obtain ⟨ks'', hg, he⟩ := hs x (List.mem_of_getElem? e2)
      refine ⟨ks'', hg, fun b => b = true, et_yes, (fun z => nomatch z), fun _ => ⟨R x, he, fun acc e h r => ⟨?_, ?_⟩⟩⟩
      · have l1 : acc.length = (xs.take i).length := (Paired.length h).symm
        have l2 := (List.getElem?_eq_some_iff.mp e2).1
        rw [l1, List.length_take]
        omega
      · rw [List.take_add_one, e2]
        exact paired_append h (.cons r .nil)).imp fun ds ⟨items, e, h⟩ => by
    subst e
    rw [List.length_map, List.take_length] at h
    exact h
/-- [f x for x in xs if b x] -/
theorem el_filt {α : Type} {wi : TI} {g : TG} {tt : TT} {te : TE} {vs : List Nat} {xs : List α} {enc : α → D} {b : α → Bool} {f : α → D} (hi : EvI F ks wi (xs.map enc)) (hz : xs.length ≤ sizeLine)
    (hs : ∀ x ∈ xs, ∃ ks'', GW F g vs ks (enc x) ks'' ∧ EvT F ks'' tt (b x) ∧ (b x = true → Ev F ks'' te (f x))) : EvL F ks (tLc wi g tt te vs) ((xs.filter b).map f) :=
  (el_lcR hi (fun _ i acc => acc = ((xs.take i).filter b).map f) (fun _ _ => by rw [List.take_zero]; rfl) fun items i d e h => by
    subst e
    rw [List.getElem?_map] at h
    cases e2 : xs[i]? with
    | none => rw [e2] at h; cases h
    | some x =>
      rw [e2] at h
      cases h
      obtain ⟨ks'', hg, ht, he⟩ := hs x (List.mem_of_getElem? e2)
      refine ⟨ks'', hg, _, ht, fun e acc h => ?_, fun e => ⟨_, he e.symm, fun acc d h r => ⟨?_, ?_⟩⟩⟩
      · rw [h, List.take_add_one, e2, List.filter_append]
        simp [← e]
      · have l2 := (List.getElem?_eq_some_iff.mp e2).1
        rw [h, List.length_map]
        have := List.length_filter_le b (xs.take i)
        rw [List.length_take] at this
        omega
      · rw [h, r, List.take_add_one, e2, List.filter_append]
        simp [← e]).imp fun ds ⟨items, e, h⟩ => by
    subst e
    rw [List.length_map, List.take_length] at h
    exact h
theorem el_map {α : Type} {wi : TI} {g : TG} {te : TE} {vs : List Nat} {xs : List α} {enc : α → D} {f : α → D} (hi : EvI F ks wi (xs.map enc)) (hz : xs.length ≤ sizeLine)
    (hs : ∀ x ∈ xs, ∃ ks'', GW F g vs ks (enc x) ks'' ∧ Ev F ks'' te (f x)) : EvL F ks (tLc wi g tYes te vs) (xs.map f) :=
  (el_filt (b := fun _ => true) hi hz fun x hx => by
    obtain ⟨ks'', h1, h2⟩ := hs x hx
    exact ⟨ks'', h1, et_yes, fun _ => h2⟩).to (by rw [List.filter_eq_self.mpr fun _ _ => rfl])
/-- [f x y for x in xs for y in ys x if b x y] -/
theorem el_lc2 {α β : Type} {wi wi1 : TI} {g g1 : TG} {tt1 : TT} {te : TE} {vs vs1 : List Nat} {xs : List α} {enc : α → D} {ys : α → List β} {enc1 : α → β → D} {b : α → β → Bool} {f : α → β → D} (hi : EvI F ks wi (xs.map enc))
    (hz : (xs.flatMap fun x => ((ys x).filter (b x)).map (f x)).length ≤ sizeLine)
    (hs : ∀ x ∈ xs, ∃ ks'', GW F g vs ks (enc x) ks'' ∧ EvI F ks'' wi1 ((ys x).map (enc1 x)) ∧ ∀ y ∈ ys x, ∃ ks3, GW F g1 vs1 ks'' (enc1 x y) ks3 ∧ EvT F ks3 tt1 (b x y) ∧ (b x y = true → Ev F ks3 te (f x y))) :
    EvL F ks (tLc2 wi g tYes wi1 g1 tt1 te vs vs1) (xs.flatMap fun x => ((ys x).filter (b x)).map (f x)) := fun M σ H o Q q => by
  refine hi M σ H o _ fun J S items H1 o1 s1 r1 it sS p n => ?_
  subst r1
  have nO := o1.noOwn n
  have nB := o1.baseNone n
  have hpre : ∀ i, i < xs.length → ∀ x, xs[i]? = some x → ∀ j, (((xs.take i).flatMap fun x => ((ys x).filter (b x)).map (f x)) ++ (((ys x).take j).filter (b x)).map (f x)).length ≤ sizeLine := fun i hi x hx j => by
    refine Nat.le_trans ?_ hz
    have e : xs = xs.take i ++ x :: xs.drop (i + 1) := by
      have ex : xs[i] = x := by
        rw [List.getElem?_eq_getElem hi] at hx
        exact Option.some.inj hx
      rw [← ex, List.getElem_cons_drop]
      exact (List.take_append_drop i xs).symm
    conv => rhs; rw [e]
    rw [List.flatMap_append, List.flatMap_cons, List.length_append, List.length_append, List.length_append]
    have h1 : ((((ys x).take j).filter (b x)).map (f x)).length ≤ (((ys x).filter (b x)).map (f x)).length := by
      rw [List.length_map, List.length_map]
      exact ((List.take_sublist j (ys x)).filter _).length_le
    omega
  refine ⟨fun i m H' => m = (xs.map enc).length - i ∧ i ≤ (xs.map enc).length ∧ Fill F ks M σ H1 p (fun ds => ds = (xs.take i).flatMap fun x => ((ys x).filter (b x)).map (f x)) H', ⟨(xs.map enc).length, rfl, Nat.zero_le _, Fill.start o1 n (by rw [List.take_zero]; rfl)⟩, ?_⟩
  rintro i m H' ⟨rfl, hle, f0⟩
  have hS : S (hid (p :: M) H') := it.mono _ _ f0.vis sS
  by_cases hlt : i < (xs.map enc).length
  · refine .inr ⟨it.go (p :: M) H' i hS hlt, fun H'' => Fill F ks M σ H1 p (fun ds => ds = (xs.take (i + 1)).flatMap fun x => ((ys x).filter (b x)).map (f x)) H'', fun H2 n => ⟨(xs.map enc).length - (i + 1), by omega, rfl, hlt, n⟩, fun u H2 y => ?_⟩
    have hl : i < xs.length := by rw [List.length_map] at hlt; exact hlt
    have ex : xs[i]? = some xs[i] := List.getElem?_eq_getElem hl
    have e : (xs.map enc)[i]? = some (enc xs[i]) := by rw [List.getElem?_map, ex]; rfl
    obtain ⟨sm, a⟩ := it.yld (p :: M) H' i u H2 _ f0.ok.live hS e y
    obtain ⟨ks'', hg, hI, hs2⟩ := hs xs[i] (List.getElem_mem hl)
    refine hg (p :: M) σ H2 u (f0.ok.same sm) a _ fun σ' o3 w r => ⟨w, ?_⟩
    refine et_yes (p :: M) σ' H2 o3 _ fun c0 H30 o30 s30 ec0 => ?_
    subst ec0
    rw [if_pos rfl]
    refine hI (p :: M) σ' H30 o30 _ fun J1 S1 it1 H4 o4 s4' r4 ok1 sS1 => ?_
    have s4 : Step ks'' σ' H2 H4 := s30.trans s4'
    subst r4
    refine ⟨fun j m H'' => m = ((ys xs[i]).map (enc1 xs[i])).length - j ∧ j ≤ ((ys xs[i]).map (enc1 xs[i])).length ∧ Ok F ks'' (p :: M) σ' H'' ∧ Same (hid (p :: M) H4) (hid (p :: M) H'') ∧
      Fill F ks M σ H1 p (fun ds => ds = ((xs.take i).flatMap fun x => ((ys x).filter (b x)).map (f x)) ++ (((ys xs[i]).take j).filter (b xs[i])).map (f xs[i])) H'', ⟨_, rfl, Nat.zero_le _, o4, Same.refl _, (f0.after nO sm r o4 s4).imp fun ds h => by rw [h, List.take_zero]; simp⟩, ?_⟩
    rintro j m H5 ⟨rfl, hle1, o5, s5, f5⟩
    have hS1 : S1 (hid (p :: M) H5) := ok1.mono _ _ s5 sS1
    by_cases hlt1 : j < ((ys xs[i]).map (enc1 xs[i])).length
    · refine .inr ⟨ok1.go (p :: M) H5 j hS1 hlt1, fun H'' => Ok F ks'' (p :: M) σ' H'' ∧ Same (hid (p :: M) H4) (hid (p :: M) H'') ∧ Fill F ks M σ H1 p (fun ds => ds = ((xs.take i).flatMap fun x => ((ys x).filter (b x)).map (f x)) ++ (((ys xs[i]).take (j + 1)).filter (b xs[i])).map (f xs[i])) H'',
        fun H6 n => ⟨((ys xs[i]).map (enc1 xs[i])).length - (j + 1), by omega, rfl, hlt1, n⟩, fun u6 H6 y6 => ?_⟩
      have hl1 : j < (ys xs[i]).length := by rw [List.length_map] at hlt1; exact hlt1
      have ey : (ys xs[i])[j]? = some (ys xs[i])[j] := List.getElem?_eq_getElem hl1
      have e6 : ((ys xs[i]).map (enc1 xs[i]))[j]? = some (enc1 xs[i] (ys xs[i])[j]) := by rw [List.getElem?_map, ey]; rfl
      obtain ⟨sm6, a6⟩ := ok1.yld (p :: M) H5 j u6 H6 _ o5.live hS1 e6 y6
      obtain ⟨ks3, hg3, ht3, he3⟩ := hs2 (ys xs[i])[j] (List.getElem_mem hl1)
      have tk : (ys xs[i]).take (j + 1) = (ys xs[i]).take j ++ [(ys xs[i])[j]] := by rw [List.take_add_one, ey]; rfl
      refine hg3 (p :: M) σ' H6 u6 (o5.same sm6) a6 _ fun σ3 o7 w7 r7 => ⟨w7, ?_⟩
      refine ht3 (p :: M) σ3 H6 o7 _ fun c H7 o8 s8 ec => ?_
      have r3 := r.trans r7
      have nO'' : ¬ OwnA ks'' σ' p := fun z => nO (r.own z)
      cases c with
      | false =>
        rw [if_neg Bool.false_ne_true]
        refine ⟨o5.back o8 ((Step.of sm6).trans s8) r7, (s5.trans (hid_mono sm6)).trans (o7.hidStep s8), (f5.after nO sm6 r3 o8 s8).imp fun ds h => ?_⟩
        rw [h, tk, List.filter_append]
        simp [← ec]
      | true =>
        rw [if_pos rfl]
        refine he3 ec.symm (p :: M) σ3 H7 o8 _ fun z d H8 o9 s9 a9 r9 => ?_
        subst r9
        have f8 := f5.after nO sm6 r3 o9 (s8.trans s9)
        obtain ⟨acc, g1, g2, g3⟩ := f8.push o1 nO nB n a9 (P' := fun ds => ds = ((xs.take i).flatMap fun x => ((ys x).filter (b x)).map (f x)) ++ (((ys xs[i]).take (j + 1)).filter (b xs[i])).map (f xs[i])) fun ds h => by
          have e9 : ((xs.take i).flatMap fun x => ((ys x).filter (b x)).map (f x)) ++ (((ys xs[i]).take (j + 1)).filter (b xs[i])).map (f xs[i]) = ds ++ [f xs[i] (ys xs[i])[j]] := by
            rw [h, tk, List.filter_append]
            simp [← ec]
          refine ⟨?_, e9.symm⟩
          have := hpre i hl xs[i] ex (j + 1)
          rw [e9, List.length_append] at this
          simp at this
          omega
        refine ⟨acc, g1, g2, ?_, ?_, g3⟩
        · have ob := o5.back o9 ((Step.of sm6).trans (s8.trans s9)) r7
          exact ob.put List.mem_cons_self nB nO'' fun z => o1.nstFresh f8.st n (r.nst z)
        · rw [hid_upd List.mem_cons_self]
          exact (s5.trans (hid_mono sm6)).trans (o7.hidStep (s8.trans s9))
    · have e : j = ((ys xs[i]).map (enc1 xs[i])).length := by omega
      subst e
      refine .inl ⟨ok1.stop (p :: M) H5 hS1, f5.imp fun ds h => ?_⟩
      rw [h, List.length_map, List.take_length, List.take_add_one, ex, List.flatMap_append]
      simp
  · have e : i = (xs.map enc).length := by omega
    subst e
    refine .inl ⟨it.stop (p :: M) H' hS, f0.done fun vs ds o2 s2 l2 a2 h2 => ?_⟩
    rw [List.length_map, List.take_length] at h2
    exact q p vs ds H' (by
      cases e : H p with
      | none => rfl
      | some u =>
        rw [s1 _ _ e nO] at n
        cases n) o2 (s1.trans s2) l2 a2 h2
end
end Dl
set_option Elab.async false
set_option linter.all false
set_option maxRecDepth 100000
set_option maxHeartbeats 4000000
/-! Dl5: slices, equality, in, isinstance, promises and calls. -/
namespace Dl
open PySem PySem.Spec PyProof.Rows L2
section
variable {F : Fm} {ks : List Kd} {M : List Addr} {σ : Sg} {H H' : Hp}
/-! ### slices -/
def EvO (F : Fm) (ks : List Kd) (t : TO) (x : Option Int) : Prop := ∀ M σ H, Ok F ks M σ H → ∀ Q : Option Int → Hp → Prop, (∀ H', Ok F ks M σ H' → Step ks σ H H' → Q x H') → t σ H Q
theorem eo_none : EvO F ks tNoPart none := fun M σ H o Q q => q H o .refl
theorem eo_some {te : TE} {i : Int} (h : Ev F ks te (.int i)) : EvO F ks (tPart te) (some i) := fun M σ H o Q q => h M σ H o _ fun v d H1 o1 s1 a1 e => by
  subst e
  cases a1
  exact ⟨i, rfl, q H1 o1 s1⟩
def cutG {α : Type} (xs : List α) (lo hi : Option Int) : List α := (xs.drop (HT.sIx xs.length 0 lo)).take (HT.sIx xs.length xs.length hi - HT.sIx xs.length 0 lo)
theorem Ats.cut {K : PySem.W.Frag} {H : Hp} {vs : List V} {ds : List D} {lo hi : Option Int} (h : Ats K H vs ds) : Ats K H (cutV vs lo hi) (cutG ds lo hi) := by
  unfold cutV cutG
  rw [h.length]
  exact (h.drop _).take _
theorem el_slL {te : TE} {tl th : TO} {ds : List D} {lo hi : Option Int} (h : Ev F ks te (.lst ds)) (h1 : EvO F ks tl lo) (h2 : EvO F ks th hi) : EvL F ks (tSl (rSlL F.K) te tl th) (cutG ds lo hi) := fun M σ H o Q q =>
  h M σ H o _ fun v d H1 o1 s1 a1 e => h1 M σ H1 o1 _ fun H2 o2 s2 => h2 M σ H2 o2 _ fun H3 o3 s3 => by
    subst e
    have a3 := (a1.mono (o1.hidStep s2)).mono (o2.hidStep s3)
    cases a3 with
    | lst hl hs =>
      refine ⟨_, _, rfl, .inl (.inl (hid_same _ _ hl)), fun p n => ?_⟩
      obtain ⟨o4, s4, l4, a4⟩ := lst_new o3 (Ats.cut (lo := lo) (hi := hi) hs) n
      refine q _ _ _ _ ?_ o4 (((s1.trans s2).trans s3).trans s4) l4 a4 rfl
      cases e : H p with
      | none => rfl
      | some u =>
        rw [((s1.trans s2).trans s3) _ _ e (o3.noOwn n)] at n
        cases n
theorem el_slS {te : TE} {tl th : TO} {ds : List D} {lo hi : Option Int} (h : Ev F ks te (.sls ds)) (h1 : EvO F ks tl lo) (h2 : EvO F ks th hi) : EvL F ks (tSl (rSlL F.K) te tl th) (cutG ds lo hi) := fun M σ H o Q q =>
  h M σ H o _ fun v d H1 o1 s1 a1 e => h1 M σ H1 o1 _ fun H2 o2 s2 => h2 M σ H2 o2 _ fun H3 o3 s3 => by
    subst e
    have a3 := (a1.mono (o1.hidStep s2)).mono (o2.hidStep s3)
    cases a3 with
    | sls hl hs =>
      refine ⟨_, _, rfl, same_l hid_same hl, fun p n => ?_⟩
      obtain ⟨o4, s4, l4, a4⟩ := lst_new o3 (Ats.cut (lo := lo) (hi := hi) hs) n
      refine q _ _ _ _ ?_ o4 (((s1.trans s2).trans s3).trans s4) l4 a4 rfl
      cases e : H p with
      | none => rfl
      | some u =>
        rw [((s1.trans s2).trans s3) _ _ e (o3.noOwn n)] at n
        cases n
theorem ev_slT {te : TE} {tl th : TO} {ds : List D} {lo hi : Option Int} (h : Ev F ks te (.tup ds)) (h1 : EvO F ks tl lo) (h2 : EvO F ks th hi) : Ev F ks (tSl (rSlA F.K) te tl th) (.tup (cutG ds lo hi)) := fun M σ H o Q q =>
  h M σ H o _ fun v d H1 o1 s1 a1 e => h1 M σ H1 o1 _ fun H2 o2 s2 => h2 M σ H2 o2 _ fun H3 o3 s3 => by
    subst e
    have a3 := (a1.mono (o1.hidStep s2)).mono (o2.hidStep s3)
    have a3' := a3
    cases a3 with
    | tup hl hs =>
      refine ⟨_, _, rfl, same_t hid_same hl, fun w => ?_, fun _ p n => ?_⟩
      · refine q _ _ H3 o3 ((s1.trans s2).trans s3) a3' ?_
        unfold cutG
        rw [hs.length] at w
        rw [w.1, w.2, List.drop_zero, Nat.sub_zero, List.take_length]
      · obtain ⟨o4, s4, a4⟩ := tup_new o3 (Ats.cut (lo := lo) (hi := hi) hs) n
        exact q _ _ _ o4 (((s1.trans s2).trans s3).trans s4) a4 rfl
/-! ### == -/
mutual
def py : D → PyData
  | .non => .none
  | .bl b => .bool b
  | .int i => .int i
  | .str x => .str x
  | .lst ds => .list (pys ds)
  | .sls ds => .list (pys ds)
  | .tup ds => .tuple (pys ds)
  | .raw _ => .none
  | .ins _ _ => .none
def pys : List D → List PyData
  | [] => []
  | d :: ds => py d :: pys ds
end
mutual
/-- plain data, the texts in order -/
def pl : D → Bool
  | .str x => PyData.strOk x
  | .lst ds => pls ds
  | .sls ds => pls ds
  | .tup ds => pls ds
  | .raw _ => false
  | .ins _ _ => false
  | _ => true
def pls : List D → Bool
  | [] => true
  | d :: ds => pl d && pls ds
end
mutual
def dep : D → Nat
  | .lst ds => deps ds + 1
  | .sls ds => deps ds + 1
  | .tup ds => deps ds + 1
  | _ => 0
def deps : List D → Nat
  | [] => 0
  | d :: ds => max (dep d) (deps ds)
end
mutual
theorem dp_of {K : PySem.W.Frag} {H : Hp} : ∀ {v : V} {d : D}, At K H v d → pl d = true → Dp K H v (py d)
  | _, _, .non, _ => by unfold py; exact .non
  | _, _, .bl b, _ => by unfold py; exact .bl b
  | _, _, .int i, _ => by unfold py; exact .int i
  | _, _, .str x, _ => by unfold py; exact .str x
  | _, _, .lst h hs, e => by
    unfold py
    unfold pl at e
    exact .lst (.inl (.inl h)) (dps_of hs e)
  | _, _, .sls h hs, e => by
    unfold py
    unfold pl at e
    exact .lst h (dps_of hs e)
  | _, _, .tup h hs, e => by
    unfold py
    unfold pl at e
    exact .tup h (dps_of hs e)
  | _, _, .raw v, e => by
    unfold pl at e
    cases e
  | _, _, .ins _ _ _, e => by
    unfold pl at e
    cases e
theorem dps_of {K : PySem.W.Frag} {H : Hp} : ∀ {vs : List V} {ds : List D}, Ats K H vs ds → pls ds = true → DpAll K H vs (pys ds)
  | _, _, .nil, _ => by unfold pys; exact .nil
  | _, _, .cons h hs, e => by
    unfold pys
    unfold pls at e
    rw [Bool.and_eq_true] at e
    exact .cons (dp_of h e.1) (dps_of hs e.2)
end
mutual
theorem can_of : ∀ d : D, pl d = true → (py d).canLay0 = true
  | .non, _ => by simp [py, PyData.canLay0]
  | .bl b, _ => by simp [py, PyData.canLay0]
  | .int i, _ => by simp [py, PyData.canLay0]
  | .str x, e => by
    unfold pl at e
    simp only [py, PyData.canLay0]
    exact e
  | .lst ds, e => by
    unfold pl at e
    simp only [py, PyData.canLay0]
    exact cans_of ds e
  | .sls ds, e => by
    unfold pl at e
    simp only [py, PyData.canLay0]
    exact cans_of ds e
  | .tup ds, e => by
    unfold pl at e
    simp only [py, PyData.canLay0]
    exact cans_of ds e
  | .raw _, _ => by simp [py, PyData.canLay0]
  | .ins _ _, _ => by simp [py, PyData.canLay0]
theorem cans_of : ∀ ds : List D, pls ds = true → PyData.canLayAll0 (pys ds) = true
  | [], _ => by simp [pys, PyData.canLayAll0]
  | d :: ds, e => by
    unfold pls at e
    rw [Bool.and_eq_true] at e
    simp only [pys, PyData.canLayAll0, can_of d e.1, cans_of ds e.2, Bool.and_self]
end
mutual
theorem dep_of : ∀ d : D, (py d).depth = dep d
  | .non => by simp [py, PyData.depth, dep]
  | .bl b => by simp [py, PyData.depth, dep]
  | .int i => by simp [py, PyData.depth, dep]
  | .str x => by simp [py, PyData.depth, dep]
  | .lst ds => by simp only [py, PyData.depth, dep, deps_of ds]
  | .sls ds => by simp only [py, PyData.depth, dep, deps_of ds]
  | .tup ds => by simp only [py, PyData.depth, dep, deps_of ds]
  | .raw _ => by simp [py, PyData.depth, dep]
  | .ins _ _ => by simp [py, PyData.depth, dep]
theorem deps_of : ∀ ds : List D, PyData.depthAll (pys ds) = deps ds
  | [] => by simp [pys, PyData.depthAll, deps]
  | d :: ds => by simp only [pys, PyData.depthAll, deps, dep_of d, deps_of ds]
end
/-- data that == may meet -/
def okD (d : D) : Bool := pl d && decide (dep d ≤ 64)
theorem okD_pl {d : D} (h : okD d = true) : pl d = true := by unfold okD at h; rw [Bool.and_eq_true] at h; exact h.1
theorem okD_sh {d : D} (h : okD d = true) : SeqAt.shaped (py d) = true := by
  unfold okD at h
  rw [Bool.and_eq_true] at h
  unfold SeqAt.shaped
  rw [Bool.and_eq_true]
  refine ⟨can_of d h.1, ?_⟩
  rw [dep_of]
  exact h.2
theorem pls_all : ∀ {ds : List D}, (∀ d ∈ ds, pl d = true) → pls ds = true
  | [], _ => by unfold pls; rfl
  | d :: ds, h => by
    unfold pls
    rw [h d List.mem_cons_self, pls_all fun x hx => h x (List.mem_cons_of_mem _ hx)]
    rfl
theorem deps_le {n : Nat} : ∀ {ds : List D}, (∀ d ∈ ds, dep d ≤ n) → deps ds ≤ n
  | [], _ => by unfold deps; exact Nat.zero_le _
  | d :: ds, h => by
    unfold deps
    exact Nat.max_le.mpr ⟨h d List.mem_cons_self, deps_le fun x hx => h x (List.mem_cons_of_mem _ hx)⟩
/-- depth at most n, plain -/
def Pln (n : Nat) (d : D) : Prop := pl d = true ∧ dep d ≤ n
theorem Pln.ok {n : Nat} {d : D} (h : Pln n d) (hn : n ≤ 64 := by decide) : okD d = true := by
  unfold okD
  rw [Bool.and_eq_true]
  exact ⟨h.1, decide_eq_true (Nat.le_trans h.2 hn)⟩
theorem Pln.int (i : Int) (n : Nat) : Pln n (.int i) := ⟨by simp [pl], by simp [dep]⟩
theorem Pln.bl (i : Bool) (n : Nat) : Pln n (.bl i) := ⟨by simp [pl], by simp [dep]⟩
theorem Pln.non (n : Nat) : Pln n .non := ⟨by simp [pl], by simp [dep]⟩
theorem Pln.tup {n : Nat} {ds : List D} (h : ∀ d ∈ ds, Pln n d) : Pln (n + 1) (.tup ds) := ⟨by unfold pl; exact pls_all fun d hd => (h d hd).1, by unfold dep; exact Nat.succ_le_succ (deps_le fun d hd => (h d hd).2)⟩
theorem Pln.lst {n : Nat} {ds : List D} (h : ∀ d ∈ ds, Pln n d) : Pln (n + 1) (.lst ds) := ⟨by unfold pl; exact pls_all fun d hd => (h d hd).1, by unfold dep; exact Nat.succ_le_succ (deps_le fun d hd => (h d hd).2)⟩
theorem Pln.map {α : Type} {f : α → D} {n : Nat} {xs : List α} (h : ∀ x ∈ xs, Pln n (f x)) : ∀ d ∈ xs.map f, Pln n d := fun d hd => by
  obtain ⟨x, hx, e⟩ := List.mem_map.mp hd
  rw [← e]
  exact h x hx
theorem opv_eqD {x y : D} (hx : okD x = true) (hy : okD y = true) : OpV F ks (rEqD F.K) x y (fun d => d = .bl (PyData.eqv (py x) (py y))) := fun M σ H o v w a b Q q =>
  ⟨py x, py y, dp_of (a.mono hid_same) (okD_pl hx), dp_of (b.mono hid_same) (okD_pl hy), okD_sh hx, okD_sh hy, q _ _ H o .refl (.bl _) rfl⟩
theorem opv_neD {x y : D} (hx : okD x = true) (hy : okD y = true) : OpV F ks (rNeD F.K) x y (fun d => d = .bl (!PyData.eqv (py x) (py y))) := fun M σ H o v w a b Q q =>
  ⟨py x, py y, dp_of (a.mono hid_same) (okD_pl hx), dp_of (b.mono hid_same) (okD_pl hy), okD_sh hx, okD_sh hy, q _ _ H o .refl (.bl _) rfl⟩
mutual
/-- data without True, False, static lists -/
def cln : D → Bool
  | .non => true
  | .int _ => true
  | .str _ => true
  | .lst ds => clns ds
  | .tup ds => clns ds
  | _ => false
def clns : List D → Bool
  | [] => true
  | d :: ds => cln d && clns ds
end
mutual
theorem eqv_eq : ∀ (x y : D), cln x = true → cln y = true → PyData.eqv (py x) (py y) = true → x = y
  | .non, y, _, hy, e => by cases y <;> first | rfl | (exfalso; simp [cln] at hy; done) | (exfalso; simp [py, PyData.eqv] at e; done)
  | .int i, y, _, hy, e => by cases y <;> first | (exfalso; simp [cln] at hy; done) | (exfalso; simp [py, PyData.eqv] at e; done) | (simp [py, PyData.eqv] at e; rw [e])
  | .str i, y, _, hy, e => by cases y <;> first | (exfalso; simp [cln] at hy; done) | (exfalso; simp [py, PyData.eqv] at e; done) | (simp [py, PyData.eqv] at e; rw [e])
  | .lst xs, y, hx, hy, e => by
    cases y with
    | lst ys =>
      unfold cln at hx hy
      simp only [py, PyData.eqv] at e
      rw [eqvs_eq xs ys hx hy e]
    | _ => first | (exfalso; simp [cln] at hy; done) | (exfalso; simp [py, PyData.eqv] at e; done)
  | .tup xs, y, hx, hy, e => by
    cases y with
    | tup ys =>
      unfold cln at hx hy
      simp only [py, PyData.eqv] at e
      rw [eqvs_eq xs ys hx hy e]
    | _ => first | (exfalso; simp [cln] at hy; done) | (exfalso; simp [py, PyData.eqv] at e; done)
  | .bl _, _, hx, _, _ => by unfold cln at hx; cases hx
  | .sls _, _, hx, _, _ => by unfold cln at hx; cases hx
  | .raw _, _, hx, _, _ => by unfold cln at hx; cases hx
  | .ins _ _, _, hx, _, _ => by unfold cln at hx; cases hx
theorem eqvs_eq : ∀ (xs ys : List D), clns xs = true → clns ys = true → PyData.eqvAll (pys xs) (pys ys) = true → xs = ys
  | [], [], _, _, _ => rfl
  | [], _ :: _, _, _, e => by simp [pys, PyData.eqvAll] at e
  | _ :: _, [], _, _, e => by simp [pys, PyData.eqvAll] at e
  | x :: xs, y :: ys, hx, hy, e => by
    unfold clns at hx hy
    rw [Bool.and_eq_true] at hx hy
    simp only [pys, PyData.eqvAll] at e
    rw [Bool.and_eq_true] at e
    rw [eqv_eq x y hx.1 hy.1 e.1, eqvs_eq xs ys hx.2 hy.2 e.2]
end
theorem eqv_rfl {x : D} (h : pl x = true) : PyData.eqv (py x) (py x) = true := SeqAt.eqv_refl _ (can_of x h)
theorem eqv_dec {x y : D} [Decidable (x = y)] (hx : cln x = true) (hy : cln y = true) (px : pl x = true) : PyData.eqv (py x) (py y) = decide (x = y) := by
  by_cases h : x = y
  · rw [decide_eq_true h, ← h]
    exact eqv_rfl px
  · rw [decide_eq_false h]
    cases e : PyData.eqv (py x) (py y) with
    | false => rfl
    | true => exact absurd (eqv_eq x y hx hy e) h
theorem clns_all : ∀ {ds : List D}, (∀ d ∈ ds, cln d = true) → clns ds = true
  | [], _ => by unfold clns; rfl
  | d :: ds, h => by
    unfold clns
    rw [h d List.mem_cons_self, clns_all fun x hx => h x (List.mem_cons_of_mem _ hx)]
    rfl
theorem cln_int (i : Int) : cln (.int i) = true := by simp [cln]
theorem cln_tup {ds : List D} (h : ∀ d ∈ ds, cln d = true) : cln (.tup ds) = true := by unfold cln; exact clns_all h
theorem cln_lst {ds : List D} (h : ∀ d ∈ ds, cln d = true) : cln (.lst ds) = true := by unfold cln; exact clns_all h
theorem cln_map {α : Type} {f : α → D} {xs : List α} (h : ∀ x ∈ xs, cln (f x) = true) : ∀ d ∈ xs.map f, cln d = true := fun d hd => by
  obtain ⟨x, hx, e⟩ := List.mem_map.mp hd
  rw [← e]
  exact h x hx
/-- == of coded data: f is one-to-one -/
theorem eqv_inj {α : Type} [DecidableEq α] {f : α → D} (inj : ∀ a b, f a = f b → a = b) {a b : α} (ca : cln (f a) = true) (cb : cln (f b) = true) (pa : pl (f a) = true) : PyData.eqv (py (f a)) (py (f b)) = decide (a = b) := by
  by_cases h : a = b
  · subst h
    rw [eqv_rfl pa, decide_eq_true rfl]
  · rw [decide_eq_false h]
    cases e : PyData.eqv (py (f a)) (py (f b)) with
    | false => rfl
    | true => exact absurd (inj _ _ (eqv_eq _ _ ca cb e)) h
/-! ### in -/
theorem opv_inD {x : D} {ys : List D} (hx : okD x = true) (hy : okD (.lst ys) = true) : OpV F ks (rInD F.K) x (.lst ys) (fun d => d = .bl (ys.any fun z => PyData.eqv (py z) (py x))) := fun M σ H o v w a b Q q => by
  have e : pys ys = ys.map py := by
    clear hy b q
    induction ys with
    | nil => unfold pys; rfl
    | cons y ys ih => unfold pys; rw [ih]; rfl
  have hb := dp_of (b.mono hid_same) (okD_pl hy)
  have hs := okD_sh hy
  unfold py at hb hs
  refine ⟨py x, pys ys, dp_of (a.mono hid_same) (okD_pl hx), hb, okD_sh hx, hs, ?_⟩
  rw [e, List.any_map]
  exact q _ _ H o .refl (.bl _) rfl
theorem opv_notInD {x : D} {ys : List D} (hx : okD x = true) (hy : okD (.lst ys) = true) : OpV F ks (rNotInD F.K) x (.lst ys) (fun d => d = .bl (!ys.any fun z => PyData.eqv (py z) (py x))) := fun M σ H o v w a b Q q => by
  have e : pys ys = ys.map py := by
    clear hy b q
    induction ys with
    | nil => unfold pys; rfl
    | cons y ys ih => unfold pys; rw [ih]; rfl
  have hb := dp_of (b.mono hid_same) (okD_pl hy)
  have hs := okD_sh hy
  unfold py at hb hs
  refine ⟨py x, pys ys, dp_of (a.mono hid_same) (okD_pl hx), hb, okD_sh hx, hs, ?_⟩
  rw [e, List.any_map]
  exact q _ _ H o .refl (.bl _) rfl
theorem any_code {α : Type} [DecidableEq α] {f : α → D} (inj : ∀ a b, f a = f b → a = b) (hc : ∀ a, cln (f a) = true) (hp : ∀ a, pl (f a) = true) (x : α) (ys : List α) : (ys.map f).any (fun z => PyData.eqv (py z) (py (f x))) = decide (x ∈ ys) := by
  rw [List.any_map]
  induction ys with
  | nil => simp
  | cons y ys ih =>
    rw [List.any_cons, ih]
    show (PyData.eqv (py (f y)) (py (f x)) || decide (x ∈ ys)) = _
    rw [eqv_inj inj (hc y) (hc x) (hp y)]
    by_cases h : y = x
    · simp [h]
    · have h2 : ¬ x = y := fun z => h z.symm
      simp [h, h2]
theorem inV_ints (i : Int) : ∀ ns : List Int, inV (.int i) (ns.map V.int) = decide (i ∈ ns)
  | [] => by simp [inV]
  | n :: ns => by
    have ih := inV_ints i ns
    unfold inV at ih ⊢
    rw [List.map_cons, List.any_cons, ih]
    show (n == i || decide (i ∈ ns)) = _
    by_cases h : n = i
    · simp [h]
    · have h2 : ¬ i = n := fun z => h z.symm
      simp [h, h2]
theorem flat_ints (ns : List Int) : (ns.map V.int).all flatV = true := by
  rw [List.all_map]
  exact List.all_eq_true.mpr fun _ _ => rfl
theorem opv_inI {i : Int} {y : D} {ns : List Int} (hy : y = .lst (ns.map D.int) ∨ y = .tup (ns.map D.int)) : OpV F ks (rIn F.K false) (.int i) y (fun d => d = .bl (decide (i ∈ ns))) := fun M σ H o v w a b Q q => by
  cases a
  rcases hy with e | e
  · subst e
    cases b with
    | lst hl hs =>
      have e := hs.ints
      subst e
      refine ⟨_, _, rfl, .inl (.inl (.inl (hid_same _ _ hl))), rfl, flat_ints ns, ?_⟩
      show Q (.bl (inV (.int i) (ns.map V.int))) H
      rw [inV_ints]
      exact q _ _ H o .refl (.bl _) rfl
  · subst e
    cases b with
    | tup hl hs =>
      have e := hs.ints
      subst e
      refine ⟨_, _, rfl, .inr (same_t hid_same hl), rfl, flat_ints ns, ?_⟩
      show Q (.bl (inV (.int i) (ns.map V.int))) H
      rw [inV_ints]
      exact q _ _ H o .refl (.bl _) rfl
theorem opv_notInI {i : Int} {y : D} {ns : List Int} (hy : y = .lst (ns.map D.int) ∨ y = .tup (ns.map D.int)) : OpV F ks (rIn F.K true) (.int i) y (fun d => d = .bl (!decide (i ∈ ns))) := fun M σ H o v w a b Q q => by
  cases a
  rcases hy with e | e
  · subst e
    cases b with
    | lst hl hs =>
      have e := hs.ints
      subst e
      refine ⟨_, _, rfl, .inl (.inl (.inl (hid_same _ _ hl))), rfl, flat_ints ns, ?_⟩
      show Q (.bl (!inV (.int i) (ns.map V.int))) H
      rw [inV_ints]
      exact q _ _ H o .refl (.bl _) rfl
  · subst e
    cases b with
    | tup hl hs =>
      have e := hs.ints
      subst e
      refine ⟨_, _, rfl, .inr (same_t hid_same hl), rfl, flat_ints ns, ?_⟩
      show Q (.bl (!inV (.int i) (ns.map V.int))) H
      rw [inV_ints]
      exact q _ _ H o .refl (.bl _) rfl
/-! ### isinstance, built-in classes -/
def tyD : D → Option String
  | .non => some "NoneType"
  | .bl _ => some "bool"
  | .int _ => some "int"
  | .str _ => some "str"
  | .lst _ => some "list"
  | .sls _ => some "list"
  | .tup _ => some "tuple"
  | _ => none
theorem tyx_of {K : PySem.W.Frag} {H : Hp} {v : V} {d : D} {n : String} (a : At K H v d) (h : tyD d = some n) : TyX K H v (.type n) := by
  cases a with
  | non => cases h; exact .base .non
  | bl b => cases h; exact .base (.bl b)
  | int i => cases h; exact .base (.int i)
  | str x => cases h; exact .base (.str x)
  | lst hl hs => cases h; exact .base (.lst hl)
  | sls hl hs =>
    cases h
    rcases hl with (hl | ⟨o, hl⟩) | ⟨o, its, m, hl, hc, _⟩
    · exact .base (.lst hl)
    · exact .base (.frz hl)
    · exact .kList hl hc
  | tup hl hs =>
    cases h
    rcases hl with (hl | ⟨o, hl⟩) | ⟨o, its, m, hl, hc, _⟩
    · exact .base (.tup hl)
    · exact .fTuple hl
    · exact .kTuple hl hc
  | raw v => cases h
  | ins _ _ _ => cases h
theorem cav_isi {x : D} {n T : String} {b : Bool} (h : tyD x = some n) (hk : kitB n T = some b) : CaV F ks (rIsi F.K) [x, .raw (.ty T)] (fun d => d = .bl b) := fun M σ H o vs a Q q => by
  cases a with
  | cons a1 a2 =>
    cases a2 with
    | cons a2 a3 =>
      cases a3
      cases a2
      exact ⟨_, _, _, _, b, rfl, .ty T, tyx_of (a1.mono hid_same) h, kit_ty hk, q _ _ H o .refl (.bl b) rfl⟩
theorem ev_isiT2 {te : TE} {x : D} {n T U : String} {b c : Bool} (he : Ev F ks te x) (h : tyD x = some n) (h1 : kitB n T = some b) (h2 : kitB n U = some c) :
    Ev F ks (tCB (rIsiT F.K) (tCons te (tCons (tTup (tCons (tC (.ty T)) (tCons (tC (.ty U)) tNil))) tNil))) (.bl (b || c)) := fun M σ H o Q q => he M σ H o _ fun v d H1 o1 s1 a1 e => by
  subst e
  refine ⟨by show 2 ≤ sizeLine; decide, fun p np => ?_⟩
  refine ⟨v, p, [.ty T, .ty U], .type n, [.type T, .type U], b || c, rfl, upd_same, .cons (.ty T) (.cons (.ty U) .nil), tyx_of ((a1.mono hid_same).mono (same_new np)) h, ?_, ?_⟩
  · refine kitAny_cons (kit_ty h1) (fun e => ?_) (fun e => by rw [e]; rfl)
    subst e
    refine kitAny_cons (kit_ty h2) (fun e => ?_) (fun e => by rw [e]; rfl)
    subst e
    exact kitAny_nil
  · exact q _ _ _ (o1.same (same_new np)) (s1.trans (.of (same_new np))) (.bl _) rfl
/-! ### reading a list that one may change -/
theorem ev_ixO {i : Nat} {k : Kd} {tj : TE} {j : Int} {R : D → Prop} (hk : ks[i]? = some k) (hm : isM k = true) (h : Ev F ks tj (.int j)) (hj : ∀ ds, wishK k ds → ∃ d, atI ds j = some d ∧ R d) : EvR F ks (tOp (rIxL F.K) (tVar i) tj) R := fun M σ H o Q q => by
  obtain ⟨p, h1, _⟩ := o.wish hk hm
  refine ⟨.ref p, h1, ?_⟩
  refine h M σ H o _ fun v d H1 o1 s1 a1 e => ?_
  subst e
  cases a1
  obtain ⟨p', h1', h2, h3, vs, ds, h4, h5, h6⟩ := o1.wish hk hm
  rw [h1] at h1'
  cases h1'
  obtain ⟨d, g1, g2⟩ := hj ds h6
  have e : ∃ u, atI vs j = some u ∧ At F.K (hid M H1) u d := by
    unfold atI at g1 ⊢
    rw [h5.length]
    cases z : ixN ds.length j with
    | none => rw [z] at g1; cases g1
    | some m =>
      rw [z] at g1
      exact h5.get g1
  obtain ⟨u, e1, e2⟩ := e
  exact ⟨p, vs, j, u, rfl, rfl, .inl (.inl h4), e1, q _ _ H1 o1 s1 e2 g2⟩
theorem ev_lenO {i : Nat} {k : Kd} {R : D → Prop} (hk : ks[i]? = some k) (hm : isM k = true) (hj : ∀ ds, wishK k ds → R (.int ds.length)) : EvR F ks (tCB (fun xs H Q => ∃ x n, xs = [x] ∧ LenV F.K x H n ∧ Q (.int n) H) (tCons (tVar i) tNil)) R := fun M σ H o Q q => by
  obtain ⟨p, h1, h2, h3, vs, ds, h4, h5, h6⟩ := o.wish hk hm
  exact ⟨.ref p, h1, _, _, rfl, .inl ⟨vs, .inl (.inl h4), rfl⟩, by rw [h5.length]; exact q _ _ H o .refl (.int _) (hj ds h6)⟩
/-- what such a list holds now -/
theorem cont_open {i : Nat} {k : Kd} {N : Sg → Hp → Prop} (hk : ks[i]? = some k) (hm : isM k = true) (c : ∀ ds, wishK k ds → Cont F (ks.set i (reK k fun x => x = ds)) N) : Cont F ks N := fun M σ H o => by
  obtain ⟨p, h1, h2, h3, vs, ds, h4, h5, h6⟩ := o.wish hk hm
  refine c ds h6 M σ H ?_
  have := o.putO hk hm h1 (ψ := fun x => x = ds) h5 rfl
  have e : upd H p (.lst vs) = H := by
    funext b
    by_cases q : b = p
    · rw [q, upd_same, h4]
    · rw [upd_ne q]
  rw [e] at this
  exact this
/-! ### promises -/
/-- the arguments ds, each answer of T -/
def spP (S : List D → (D → Prop) → Prop) (K : PySem.W.Frag) : Sp := fun vs H Q _ => ∃ M ds T, Ats K (hid M H) vs ds ∧ (∀ a ∈ M, ∃ o, H a = some o) ∧ S ds T ∧ ∀ d v H', T d → Same H H' → At K (hid M H') v d → Q v H'
/-- .. a new list -/
def spL (S : List D → (List D → Prop) → Prop) (K : PySem.W.Frag) : Sp := fun vs H Q _ => ∃ M ds T, Ats K (hid M H) vs ds ∧ (∀ a ∈ M, ∃ o, H a = some o) ∧ S ds T ∧ ∀ p ws es H', T es → H p = none → Same H H' → H' p = some (.lst ws) → Ats K (hid (p :: M) H') ws es → Q (.ref p) H'
/-- .. the first argument a list that it may change within φ -/
def spS (φ : List D → Prop) (S : List D → (D → Prop) → Prop) (K : PySem.W.Frag) : Sp := fun vs H Q _ => ∃ M a us vs0 ds0 ds T, vs = .ref a :: us ∧ a ∈ M ∧ H a = some (.lst vs0) ∧ Ats K (hid M H) vs0 ds0 ∧ φ ds0 ∧ Ats K (hid M H) us ds ∧ (∀ a ∈ M, ∃ o, H a = some o) ∧ S ds T ∧
  ∀ d v H' vs1 ds1, T d → (∀ b o, H b = some o → b ≠ a → H' b = some o) → H' a = some (.lst vs1) → Ats K (hid M H') vs1 ds1 → φ ds1 → At K (hid M H') v d → Q v H'
def spSL (φ : List D → Prop) (S : List D → (List D → Prop) → Prop) (K : PySem.W.Frag) : Sp := fun vs H Q _ => ∃ M a us vs0 ds0 ds T, vs = .ref a :: us ∧ a ∈ M ∧ H a = some (.lst vs0) ∧ Ats K (hid M H) vs0 ds0 ∧ φ ds0 ∧ Ats K (hid M H) us ds ∧ (∀ a ∈ M, ∃ o, H a = some o) ∧ S ds T ∧
  ∀ p ws es H' vs1 ds1, T es → H p = none → (∀ b o, H b = some o → b ≠ a → H' b = some o) → H' a = some (.lst vs1) → Ats K (hid (p :: M) H') vs1 ds1 → φ ds1 → H' p = some (.lst ws) → Ats K (hid (p :: M) H') ws es → Q (.ref p) H'
theorem ev_callR {S : List D → (D → Prop) → Prop} {E : XK} {ta : TA} {Ra : List D → Prop} {R : D → Prop} (h : EvAR F ks ta Ra) (hS : ∀ ds, Ra ds → ∃ T, S ds T ∧ ∀ d, T d → R d) : EvR F ks (tCall (spP S F.K) [] E ta) R := fun M σ H o Q q =>
  h M σ H o _ fun vs ds H1 o1 s1 a1 r1 => by
    obtain ⟨T, hT, i⟩ := hS ds r1
    refine ⟨M, ds, T, by rw [List.append_nil]; exact a1, o1.live, hT, fun d v H' t sm a => ?_⟩
    exact q v d H' (o1.same sm) (s1.trans (.of sm)) a (i d t)
theorem ev_call {S : List D → (D → Prop) → Prop} {E : XK} {ta : TA} {ds : List D} {T : D → Prop} (h : EvA F ks ta ds) (hS : S ds T) : EvR F ks (tCall (spP S F.K) [] E ta) T := ev_callR h fun es e => ⟨T, by rw [e]; exact hS, fun _ t => t⟩
theorem el_callR {S : List D → (List D → Prop) → Prop} {E : XK} {ta : TA} {Ra : List D → Prop} {R : List D → Prop} (h : EvAR F ks ta Ra) (hS : ∀ ds, Ra ds → ∃ T, S ds T ∧ ∀ d, T d → R d) : EvLR F ks (tCall (spL S F.K) [] E ta) R := fun M σ H o Q q =>
  h M σ H o _ fun vs ds H1 o1 s1 a1 r1 => by
    obtain ⟨T, hT, i⟩ := hS ds r1
    refine ⟨M, ds, T, by rw [List.append_nil]; exact a1, o1.live, hT, fun p ws es H' t n sm l a => ?_⟩
    have e : hid (p :: M) (upd H1 p (.lst ws)) = hid M H1 := hid_new n
    have sm2 : Same (upd H1 p (.lst ws)) H' := fun b u hb => by
      by_cases q : b = p
      · subst q
        rw [upd_same] at hb
        cases hb
        exact l
      · rw [upd_ne q] at hb
        exact sm b u hb
    refine q p ws es H' ?_ ((o1.hide n).same sm2) (s1.trans (.of sm)) l a (i es t)
    cases e : H p with
    | none => rfl
    | some u =>
      rw [s1 _ _ e (o1.noOwn n)] at n
      cases n
theorem el_call {S : List D → (List D → Prop) → Prop} {E : XK} {ta : TA} {ds : List D} {T : List D → Prop} (h : EvA F ks ta ds) (hS : S ds T) : EvLR F ks (tCall (spL S F.K) [] E ta) T := el_callR h fun es e => ⟨T, by rw [e]; exact hS, fun _ t => t⟩
theorem Ok.turn (o : Ok F ks M σ H) {i : Nat} {k : Kd} {a : Addr} {vs1 : List V} {ds1 : List D} (hk : ks[i]? = some k) (hm : isM k = true) (ha : σ[i]? = some (some (.ref a))) (s : ∀ b u, H b = some u → b ≠ a → H' b = some u) (l : H' a = some (.lst vs1)) (at1 : Ats F.K (hid M H') vs1 ds1) (f : wishK k ds1) : Ok F ks M σ H' ∧ Step ks σ H H' := by
  have own : OwnA ks σ a := ⟨i, k, hk, hm, ha⟩
  have st : Step ks σ H H' := fun b u h n => s b u h fun z => n (by rw [z]; exact own)
  have hs := o.hidStep st
  have has : ∀ (j : Nat) (k' : Kd) (p : Addr), ks[j]? = some k' → isM k' = true → Has F M H σ[j]? p (wishK k') → Has F M H' σ[j]? p (wishK k') := fun j k' p e m h => by
    obtain ⟨h1, h2, h3, vs, ds, h4, h5, h6⟩ := h
    by_cases q : p = a
    · subst q
      have ij : j = i := o.inj j i k' k p e hk m hm h1 ha
      subst ij
      rw [e] at hk
      cases hk
      exact ⟨h1, h2, h3, vs1, ds1, l, at1, f⟩
    · exact ⟨h1, h2, h3, vs, ds, s _ _ h4 q, h5.mono hs, h6⟩
  have hB : F.B a = none := by
    obtain ⟨p, h1, h2, h3, _⟩ := o.wish hk hm
    rw [ha] at h1
    cases h1
    exact h3
  have hN : ∀ (i : Nat) (χ : List (List D) → Prop), ks[i]? = some (.nst χ) → ∃ p qs, Nes F M H' σ[i]? p qs χ ∧ ∀ a ∈ p :: qs, ¬ OwnA ks σ a := fun i χ e => by
    obtain ⟨p, qs, h1, h2⟩ := o.nst i χ e
    exact ⟨p, qs, h1.to rfl rfl h1.mem (fun b hb u g => st b u g (h2 b hb)) hs (fun _ r => r), h2⟩
  refine ⟨⟨o.len, fun i d e => ?_, fun i φ e => ?_, fun i φ e => ?_, o.inj, hN, o.one, fun b u h => s b u (o.base b u h) (fun z => by rw [z, hB] at h; cases h), o.vis.trans hs, o.sup, fun b hb => ?_⟩, st⟩
  · obtain ⟨v, h1, h2⟩ := o.dat i d e
    exact ⟨v, h1, h2.mono hs⟩
  · obtain ⟨p, h1, h2⟩ := o.own i φ e
    exact ⟨p, h1, has i (.own φ) p e rfl h2⟩
  · obtain ⟨p, h1, h2⟩ := o.bor i φ e
    exact ⟨p, h1, has i (.bor φ) p e rfl h2⟩
  · by_cases q : b = a
    · exact ⟨_, by rw [q]; exact l⟩
    · obtain ⟨u, hu⟩ := o.live b hb
      exact ⟨u, s b u hu q⟩
/-- a call that may change slot i's list within its wish -/
theorem ev_callSR {φ : List D → Prop} {S : List D → (D → Prop) → Prop} {E : XK} {ta : TA} {i : Nat} {k : Kd} {Ra : List D → Prop} {R : D → Prop} (hk : ks[i]? = some k) (hm : isM k = true) (hφ : wishK k = φ) (h : EvAR F ks ta Ra) (hS : ∀ ds, Ra ds → ∃ T, S ds T ∧ ∀ d, T d → R d) :
    EvR F ks (tCall (spS φ S F.K) [] E (tCons (tVar i) ta)) R := fun M σ H o Q q => by
  obtain ⟨p, h1, _⟩ := o.wish hk hm
  refine ⟨.ref p, h1, ?_⟩
  refine h M σ H o _ fun vs ds H1 o1 s1 a1 r1 => ?_
  obtain ⟨p', h1', h2, h3, vs0, ds0, h4, h5, h6⟩ := o1.wish hk hm
  rw [h1] at h1'
  cases h1'
  obtain ⟨T, hT, it⟩ := hS ds r1
  refine ⟨M, p, vs ++ [], vs0, ds0, ds, T, rfl, h2, h4, h5, by rw [← hφ]; exact h6, by rw [List.append_nil]; exact a1, o1.live, hT, fun d v H' vs1 ds1 t s l b f a => ?_⟩
  obtain ⟨o2, s2⟩ := o1.turn hk hm h1 s l b (by rw [hφ]; exact f)
  exact q v d H' o2 (s1.trans s2) a (it d t)
theorem ev_callS {φ : List D → Prop} {S : List D → (D → Prop) → Prop} {E : XK} {ta : TA} {i : Nat} {k : Kd} {ds : List D} {T : D → Prop} (hk : ks[i]? = some k) (hm : isM k = true) (hφ : wishK k = φ) (h : EvA F ks ta ds) (hS : S ds T) :
    EvR F ks (tCall (spS φ S F.K) [] E (tCons (tVar i) ta)) T := ev_callSR hk hm hφ h fun es e => ⟨T, by rw [e]; exact hS, fun _ t => t⟩
theorem el_callSR {φ : List D → Prop} {S : List D → (List D → Prop) → Prop} {E : XK} {ta : TA} {i : Nat} {k : Kd} {Ra : List D → Prop} {R : List D → Prop} (hk : ks[i]? = some k) (hm : isM k = true) (hφ : wishK k = φ) (h : EvAR F ks ta Ra) (hS : ∀ ds, Ra ds → ∃ T, S ds T ∧ ∀ d, T d → R d) :
    EvLR F ks (tCall (spSL φ S F.K) [] E (tCons (tVar i) ta)) R := fun M σ H o Q q => by
  obtain ⟨p, h1, _⟩ := o.wish hk hm
  refine ⟨.ref p, h1, ?_⟩
  refine h M σ H o _ fun vs ds H1 o1 s1 a1 r1 => ?_
  obtain ⟨p', h1', h2, h3, vs0, ds0, h4, h5, h6⟩ := o1.wish hk hm
  rw [h1] at h1'
  cases h1'
  obtain ⟨T, hT, it⟩ := hS ds r1
  refine ⟨M, p, vs ++ [], vs0, ds0, ds, T, rfl, h2, h4, h5, by rw [← hφ]; exact h6, by rw [List.append_nil]; exact a1, o1.live, hT, fun t ws es H' vs1 ds1 ht n s l b f l2 a => ?_⟩
  have sm2 : ∀ b u, (upd H1 t (.lst ws)) b = some u → b ≠ p → H' b = some u := fun b u hb nb => by
    by_cases q : b = t
    · subst q
      rw [upd_same] at hb
      cases hb
      exact l2
    · rw [upd_ne q] at hb
      exact s b u hb nb
  obtain ⟨o2, s2⟩ := (o1.hide (u := .lst ws) n).turn hk hm h1 sm2 l b (by rw [hφ]; exact f)
  refine q t ws es H' ?_ o2 (s1.trans fun b u hb nb => s2 b u (same_new n _ _ hb) nb) l2 a (it es ht)
  cases e : H t with
  | none => rfl
  | some u =>
    rw [s1 _ _ e (o1.noOwn n)] at n
    cases n
theorem el_callS {φ : List D → Prop} {S : List D → (List D → Prop) → Prop} {E : XK} {ta : TA} {i : Nat} {k : Kd} {ds : List D} {T : List D → Prop} (hk : ks[i]? = some k) (hm : isM k = true) (hφ : wishK k = φ) (h : EvA F ks ta ds) (hS : S ds T) :
    EvLR F ks (tCall (spSL φ S F.K) [] E (tCons (tVar i) ta)) T := el_callSR hk hm hφ h fun es e => ⟨T, by rw [e]; exact hS, fun _ t => t⟩
/-! ### entries, returns -/
theorem start_get {N : List Str} {vs : List V} {i : Nat} {v : V} (h : vs[i]? = some v) : (L2.start N vs)[i]? = some (some v) := by
  unfold L2.start
  have l := (List.getElem?_eq_some_iff.mp h).1
  rw [List.getElem?_append_left (by rw [List.length_map]; exact l), List.getElem?_map, h]
  rfl
/-- the kinds at the entry -/
def kin (ds : List D) (n : Nat) : List Kd := ds.map Kd.dat ++ List.replicate n .any
theorem kin_dat {ds : List D} {n i : Nat} {d : D} (h : (kin ds n)[i]? = some (.dat d)) : ds[i]? = some d := by
  unfold kin at h
  by_cases l : i < ds.length
  · rw [List.getElem?_append_left (by rw [List.length_map]; exact l), List.getElem?_map, List.getElem?_eq_getElem l] at h
    rw [List.getElem?_eq_getElem l]
    cases h
    rfl
  · rw [List.getElem?_append_right (by rw [List.length_map]; omega), List.getElem?_replicate] at h
    split at h <;> cases h
theorem kin_noN {ds : List D} {n i : Nat} {φ : List (List D) → Prop} : ¬ (kin ds n)[i]? = some (.nst φ) := fun h => by
  unfold kin at h
  by_cases l : i < ds.length
  · rw [List.getElem?_append_left (by rw [List.length_map]; exact l), List.getElem?_map, List.getElem?_eq_getElem l] at h
    cases h
  · rw [List.getElem?_append_right (by rw [List.length_map]; omega), List.getElem?_replicate] at h
    split at h <;> cases h
theorem kin_noM {ds : List D} {n i : Nat} {k : Kd} (h : (kin ds n)[i]? = some k) : isM k = false := by
  unfold kin at h
  by_cases l : i < ds.length
  · rw [List.getElem?_append_left (by rw [List.length_map]; exact l), List.getElem?_map, List.getElem?_eq_getElem l] at h
    cases h
    rfl
  · rw [List.getElem?_append_right (by rw [List.length_map]; omega), List.getElem?_replicate] at h
    split at h <;> cases h
    rfl
theorem ok_start {K : PySem.W.Frag} {N : List Str} {vs : List V} {ds : List D} (h : Ats K (hid M H) vs ds) (lv : ∀ a ∈ M, ∃ o, H a = some o) {ks : List Kd} (e : ks = kin ds (N.length - ds.length)) (hl : ds.length ≤ N.length) : Ok ⟨K, H, hid M H, M⟩ ks M (L2.start N vs) H := by
  subst e
  refine ⟨?_, fun i d e => ?_, fun i φ e => ?_, fun i φ e => ?_, fun i j k l p e1 e2 m1 m2 _ _ => ?_, fun i φ e => absurd e kin_noN, fun i j φ ψ e => absurd e kin_noN, Same.refl _, Same.refl _, fun a z => z, lv⟩
  · unfold L2.start kin
    rw [List.length_append, List.length_append, List.length_map, List.length_map, List.length_replicate, List.length_replicate, h.length]
  · obtain ⟨v, h1, h2⟩ := h.get (kin_dat e)
    exact ⟨v, start_get h1, h2⟩
  · have := kin_noM e
    cases this
  · have := kin_noM e
    cases this
  · rw [kin_noM e1] at m1
    cases m1
theorem ok_startS {K : PySem.W.Frag} {N : List Str} {us : List V} {ds : List D} {a : Addr} {vs0 : List V} {ds0 : List D} {φ : List D → Prop} (ha : a ∈ M) (hl0 : H a = some (.lst vs0)) (h0 : Ats K (hid M H) vs0 ds0) (hφ : φ ds0) (h : Ats K (hid M H) us ds) (lv : ∀ a ∈ M, ∃ o, H a = some o)
    {ks : List Kd} (e : ks = .bor φ :: kin ds (N.length - 1 - ds.length)) (hl : ds.length + 1 ≤ N.length) : Ok ⟨K, hid [a] H, hid M H, M⟩ ks M (L2.start N (.ref a :: us)) H := by
  subst e
  have kn : ∀ (i : Nat) (ψ : List (List D) → Prop), ¬ (Kd.bor φ :: kin ds (N.length - 1 - ds.length))[i]? = some (.nst ψ) := fun i ψ e => by
    cases i with
    | zero => cases e
    | succ i =>
      rw [List.getElem?_cons_succ] at e
      exact kin_noN e
  refine ⟨?_, fun i d e => ?_, fun i ψ e => ?_, fun i ψ e => ?_, fun i j k l p e1 e2 m1 m2 _ _ => ?_, fun i φ e => absurd e (kn i φ), fun i j φ ψ e => absurd e (kn i φ), hid_same, Same.refl _, fun a z => z, lv⟩
  · unfold L2.start kin
    rw [List.length_append, List.length_map, List.length_cons, List.length_replicate, List.length_cons, List.length_append, List.length_map, List.length_replicate, h.length]
    omega
  · cases i with
    | zero => cases e
    | succ i =>
      rw [List.getElem?_cons_succ] at e
      obtain ⟨v, h1, h2⟩ := h.get (kin_dat e)
      exact ⟨v, start_get (by rw [List.getElem?_cons_succ]; exact h1), h2⟩
  · cases i with
    | zero => cases e
    | succ i =>
      rw [List.getElem?_cons_succ] at e
      have := kin_noM e
      cases this
  · cases i with
    | zero =>
      cases e
      exact ⟨a, ha, start_get rfl, ha, hid_in (by simp), vs0, ds0, hl0, h0, hφ⟩
    | succ i =>
      rw [List.getElem?_cons_succ] at e
      have := kin_noM e
      cases this
  · cases i with
    | zero =>
      cases j with
      | zero => rfl
      | succ j =>
        rw [List.getElem?_cons_succ] at e2
        rw [kin_noM e2] at m2
        cases m2
    | succ i =>
      rw [List.getElem?_cons_succ] at e1
      rw [kin_noM e1] at m1
      cases m1
theorem enterP {K : PySem.W.Frag} {N : List Str} {vs : List V} {ds : List D} {t : TS} {E : Ends} (h : Ats K (hid M H) vs ds) (lv : ∀ a ∈ M, ∃ o, H a = some o) (ks : List Kd) (e : ks = kin ds (N.length - ds.length)) (hl : ds.length ≤ N.length) (r : Run ⟨K, H, hid M H, M⟩ ks t E) : t E (L2.start N vs) H := r M _ H (ok_start h lv e hl)
theorem enterS {K : PySem.W.Frag} {N : List Str} {us : List V} {ds : List D} {a : Addr} {vs0 : List V} {ds0 : List D} {φ : List D → Prop} {t : TS} {E : Ends} (ha : a ∈ M) (hl0 : H a = some (.lst vs0)) (h0 : Ats K (hid M H) vs0 ds0) (hφ : φ ds0) (h : Ats K (hid M H) us ds) (lv : ∀ a ∈ M, ∃ o, H a = some o)
    (ks : List Kd) (e : ks = .bor φ :: kin ds (N.length - 1 - ds.length)) (hl : ds.length + 1 ≤ N.length) (r : Run ⟨K, hid [a] H, hid M H, M⟩ ks t E) : t E (L2.start N (.ref a :: us)) H := r M _ H (ok_startS ha hl0 h0 hφ h lv e hl)
/-- a return keeps spP -/
theorem run_retP {H0 : Hp} {M0 : List Addr} {Q : VK} {T R : D → Prop} {te : TE} {E : Ends} (q : ∀ d v H', T d → Same H0 H' → At F.K (hid M0 H') v d → Q v H') (hb : Same H0 F.B) (hm : F.M0 = M0) (hE : E.rt = Q) (h : EvR F ks te R) (i : ∀ d, R d → T d) : Run F ks (tRet te) E :=
  run_retR h fun M v d σ H o a r => by
    rw [hE]
    exact q d v H (i d r) (hb.trans o.base) (a.mono (hid_sub fun b hb => o.sup b (by rw [hm]; exact hb)))
/-- .. spL -/
theorem run_retL {H0 : Hp} {M0 : List Addr} {Q : VK} {T R : List D → Prop} {te : TE} {E : Ends} (q : ∀ p ws es H', T es → H0 p = none → Same H0 H' → H' p = some (.lst ws) → Ats F.K (hid (p :: M0) H') ws es → Q (.ref p) H') (hb : Same H0 F.B) (hm : F.M0 = M0) (hE : E.rt = Q) (h : EvLR F ks te R) (i : ∀ d, R d → T d) : Run F ks (tRet te) E :=
  fun M σ H o => h M σ H o _ fun p ws es H1 n o1 s1 l1 a1 r1 => by
    rw [hE]
    refine q p ws es H1 (i es r1) ?_ (hb.trans o1.base) l1 (a1.mono (hid_sub fun b hb => ?_))
    · cases e : H0 p with
      | none => rfl
      | some u =>
        rw [o.base _ _ (hb _ _ e)] at n
        cases n
    · rcases List.mem_cons.mp hb with z | z
      · rw [z]; exact List.mem_cons_self
      · exact List.mem_cons_of_mem _ (o.sup b (by rw [hm]; exact z))
/-- .. a list of one's own -/
theorem run_retO {H0 : Hp} {M0 : List Addr} {Q : VK} {T : List D → Prop} {i : Nat} {φ : List D → Prop} {E : Ends} (q : ∀ p ws es H', T es → H0 p = none → Same H0 H' → H' p = some (.lst ws) → Ats F.K (hid (p :: M0) H') ws es → Q (.ref p) H') (hb : Same H0 F.B) (hm : F.M0 = M0) (hE : E.rt = Q) (hk : ks[i]? = some (.own φ)) (hi : ∀ d, φ d → T d) : Run F ks (tRet (tVar i)) E :=
  fun M σ H o => by
    obtain ⟨p, n0, h1, h2, h3, vs, ds, h4, h5, h6⟩ := o.own i φ hk
    refine ⟨.ref p, h1, ?_⟩
    show E.rt (.ref p) H
    rw [hE]
    refine q p vs ds H (hi ds h6) ?_ (hb.trans o.base) h4 (h5.mono (hid_sub fun b hb => ?_))
    · cases e : H0 p with
      | none => rfl
      | some u =>
        rw [hb _ _ e] at h3
        cases h3
    · rcases List.mem_cons.mp hb with z | z
      · rw [z]; exact h2
      · exact o.sup b (by rw [hm]; exact z)
/-- .. spS, the list in slot i -/
theorem bor_at {H0 : Hp} {a : Addr} {i : Nat} {φ : List D → Prop} (hb : Same (hid [a] H0) F.B) (lv : ∀ b ∈ F.M0, ∃ o, H0 b = some o) (hk : ks[i]? = some (.bor φ)) (o : Ok F ks M σ H) : Has F M H σ[i]? a φ := by
  obtain ⟨p, n0, h⟩ := o.bor i φ hk
  by_cases e : p = a
  · rw [← e]; exact h
  · obtain ⟨u, hu⟩ := lv p n0
    have := hb p u (by rw [hid_out (by simpa using e)]; exact hu)
    rw [h.2.2.1] at this
    cases this
theorem run_retS {H0 : Hp} {M0 : List Addr} {Q : VK} {T R : D → Prop} {te : TE} {E : Ends} {i : Nat} {a : Addr} {φ : List D → Prop} (q : ∀ d v H' vs1 ds1, T d → (∀ b o, H0 b = some o → b ≠ a → H' b = some o) → H' a = some (.lst vs1) → Ats F.K (hid M0 H') vs1 ds1 → φ ds1 → At F.K (hid M0 H') v d → Q v H')
    (hb : Same (hid [a] H0) F.B) (lv : ∀ b ∈ F.M0, ∃ o, H0 b = some o) (hm : F.M0 = M0) (hE : E.rt = Q) (hk : ks[i]? = some (.bor φ)) (h : EvR F ks te R) (hi : ∀ d, R d → T d) : Run F ks (tRet te) E :=
  run_retR h fun M v d σ H o at1 r => by
    rw [hE]
    obtain ⟨h1, h2, h3, vs, ds, h4, h5, h6⟩ := bor_at hb lv hk o
    have sub : Same (hid M H) (hid M0 H) := hid_sub fun b hb => o.sup b (by rw [hm]; exact hb)
    refine q d v H vs ds (hi d r) (fun b u hb2 nb => o.base _ _ (hb _ _ (by rw [hid_out (by simpa using nb)]; exact hb2))) h4 (h5.mono sub) h6 (at1.mono sub)
theorem run_retSL {H0 : Hp} {M0 : List Addr} {Q : VK} {T R : List D → Prop} {te : TE} {E : Ends} {i : Nat} {a : Addr} {φ : List D → Prop}
    (q : ∀ p ws es H' vs1 ds1, T es → H0 p = none → (∀ b o, H0 b = some o → b ≠ a → H' b = some o) → H' a = some (.lst vs1) → Ats F.K (hid (p :: M0) H') vs1 ds1 → φ ds1 → H' p = some (.lst ws) → Ats F.K (hid (p :: M0) H') ws es → Q (.ref p) H')
    (hb : Same (hid [a] H0) F.B) (lv : ∀ b ∈ F.M0, ∃ o, H0 b = some o) (hm : F.M0 = M0) (hE : E.rt = Q) (hk : ks[i]? = some (.bor φ)) (h : EvLR F ks te R) (hi : ∀ d, R d → T d) : Run F ks (tRet te) E :=
  fun M σ H o => h M σ H o _ fun p ws es H1 n o1 s1 l1 a1 r1 => by
    rw [hE]
    obtain ⟨_, _, _, vs0, ds0, g4, _, _⟩ := bor_at hb lv hk o
    obtain ⟨h1, h2, h3, vs, ds, h4, h5, h6⟩ := bor_at hb lv hk o1
    have sub : Same (hid (p :: M) H1) (hid (p :: M0) H1) := hid_sub fun b hb => by
      rcases List.mem_cons.mp hb with z | z
      · rw [z]; exact List.mem_cons_self
      · exact List.mem_cons_of_mem _ (o.sup b (by rw [hm]; exact z))
    have bs : ∀ b u, H0 b = some u → b ≠ a → F.B b = some u := fun b u hb2 nb => hb _ _ (by rw [hid_out (by simpa using nb)]; exact hb2)
    refine q p ws es H1 vs ds (hi es r1) ?_ (fun b u hb2 nb => o1.base _ _ (bs b u hb2 nb)) h4 (h5.mono sub) h6 l1 (a1.mono sub)
    by_cases e : p = a
    · rw [e, g4] at n
      cases n
    · cases e2 : H0 p with
      | none => rfl
      | some u =>
        rw [o.base _ _ (bs p u e2 e)] at n
        cases n
end
end Dl
set_option Elab.async false
set_option linter.all false
set_option maxRecDepth 100000
set_option maxHeartbeats 4000000
/-! TupX: t[::-1] of a tuple; t * k for any small k. -/
namespace TupX
open PySem PySem.Spec PyProof.Rows L2 HT
section
variable {prog : Program} {w : World} {A : Around} {E : Value → Shared → Prop} {s : Shared}
theorem adjust_rev (n : Nat) : Builtin.Slice.sliceAdjust none none (-1) (n : Int) = ((n : Int) - 1, -1) := by
  unfold Builtin.Slice.sliceAdjust
  have h1 : ((-1 : Int) < 0) := by omega
  simp only [h1, if_true]
theorem places_rev (n : Nat) : Builtin.Slice.slicePlaces ((n : Int) - 1) (-1) (-1) = n := by
  unfold Builtin.Slice.slicePlaces
  have h1 : ¬ ((-1 : Int) > 0) := by omega
  simp only [h1, if_false, Int.neg_neg, Int.ediv_one]
  split <;> omega
theorem sliceApplied_rev {sl : Addr} {vl vu vs : Value} {n : Nat} {Q : Int × Int × Nat → Shared → Prop} (hs : s.heap.IsSliceOf sl vl vu vs) (pl : IsPart vl none) (pu : IsPart vu none) (ps : IsPart vs (some (-1)))
    (h : Q ((n : Int) - 1, -1, n) s) : wpAny (model prog w) A (Builtin.Slice.sliceApplied (.ref sl) (pure (n : Int))) Q E s := by
  obtain ⟨os, hos, hcs, hds⟩ := id hs
  unfold Builtin.Slice.sliceApplied Builtin.Slice.sliceFields
  refine wpAny_bind (wpAny_bind (wpAny_field hos hds (x := vl) rfl (wpAny_bind (wpAny_field hos hds (x := vu) rfl (wpAny_bind (wpAny_field hos hds (x := vs) rfl (wpAny_pure ?_)))))))
  refine wpAny_bind (slicePart_ ps ?_)
  show wpAny _ _ (if ((-1 : Int) == 0) = true then _ else _) _ _ s
  rw [if_neg (by decide)]
  refine wpAny_bind (slicePart_ pl (wpAny_bind (slicePart_ pu (wpAny_bind (wpAny_pure ?_)))))
  show wpAny _ _ (match Builtin.Slice.sliceAdjust none none (-1) (n : Int) with | (lo, hi) => pure (lo, (-1 : Int), Builtin.Slice.slicePlaces lo hi (-1))) _ _ s
  rw [adjust_rev n]
  show wpAny _ _ (pure ((n : Int) - 1, (-1 : Int), Builtin.Slice.slicePlaces ((n : Int) - 1) (-1) (-1))) _ _ s
  rw [places_rev]
  exact wpAny_pure h
theorem filterMap_cg {α β : Type} {f g : α → Option β} : ∀ {l : List α}, (∀ a ∈ l, f a = g a) → l.filterMap f = l.filterMap g
  | [], _ => rfl
  | a :: l, h => by
    rw [List.filterMap_cons, List.filterMap_cons, h a List.mem_cons_self, filterMap_cg fun b hb => h b (List.mem_cons_of_mem _ hb)]
theorem filterMap_rev {α : Type} (f : Nat → Option α) : ∀ (l : List α), (∀ i, i < l.length → f i = l[l.length - 1 - i]?) → (List.range l.length).filterMap f = l.reverse := fun l h => by
  have e : (List.range l.length).filterMap f = (List.range l.length).filterMap fun i => l.reverse[i]? := by
    apply filterMap_cg
    intro i hi
    rw [List.mem_range] at hi
    rw [h i hi, List.getElem?_reverse hi]
  rw [e]
  have g : ∀ (m : List α), (List.range m.length).filterMap (fun i => m[i]?) = m := fun m => by
    induction m with
    | nil => rfl
    | cons a m ih =>
      rw [List.length_cons, List.range_succ_eq_map, List.filterMap_cons]
      show a :: _ = _
      rw [List.filterMap_map]
      congr 1
  have := g l.reverse
  rw [List.length_reverse] at this
  exact this
theorem pick_rev (xs : Array Value) : ((List.range xs.size).filterMap fun (k : Nat) => xs[(((xs.size : Int) - 1) + (k : Int) * (-1)).toNat]?).toArray = xs.toList.reverse.toArray := by
  congr 1
  have := filterMap_rev (fun (k : Nat) => xs[(((xs.size : Int) - 1) + (k : Int) * (-1)).toNat]?) xs.toList (fun i hi => by
    rw [Array.length_toList] at hi ⊢
    have e : (((xs.size : Int) - 1) + (i : Int) * (-1)).toNat = xs.size - 1 - i := by omega
    show xs[(((xs.size : Int) - 1) + (i : Int) * (-1)).toNat]? = _
    rw [e, Array.getElem?_toList])
  rw [Array.length_toList] at this
  exact this
theorem getItem_tuple_rev {t sl : Addr} {items : Array Value} {vl vu vs : Value} {Q : Value → Shared → Prop} (ht : IsTup s.heap t items) (hs : s.heap.IsSliceOf sl vl vu vs) (pl : IsPart vl none) (pu : IsPart vu none) (ps : IsPart vs (some (-1)))
    (h : Q (.ref s.heap.objs.size) { s with heap := s.heap.push { cls := .type "tuple", data := .seq items.toList.reverse.toArray } }) (hsz : items.size ≤ sizeLine) : wpAny (model prog w) A (getItem (.ref t) (.ref sl)) Q E s := by
  have htake : sizeOk (.seq items.toList.reverse.toArray) := by
    show items.toList.reverse.toArray.size ≤ sizeLine
    rw [List.size_toArray, List.length_reverse, Array.length_toList]
    exact hsz
  obtain ⟨os, hos, hcs, hds⟩ := id hs
  have hTs : s.TypeIs (.ref sl) "slice" := ⟨os, hos, hcs⟩
  unfold getItem
  try with_reducible refine wpAny_holding ?_
  first | refine wpAny_bind (wpAny_pure ?_) | skip
  refine wpAny_bind (wpAny_sequenceKey ht.typeIs (by decide) ?_)
  refine wpAny_bind (wpAny_callSpecial?_slot (name := Str.ofString "__getitem__") ht.typeIs PyProof.Rows.slot_tuple_getitem
    (wpAny_call_entry PyProof.Rows.slot_tuple_getitem ht.typeIs entry_tuple_getitem ?_ (args_tuple_getitem _ _)))
  show wpAny _ _ (Builtin.Tuple.tupleItemsOf (.ref t) >>= _) _ _ s
  refine wpAny_bind (tupleItemsOf_ ht ?_)
  refine wpAny_bind (wpAny_typeOf hTs ?_)
  rw [if_pos (by decide)]
  refine wpAny_bind (sliceApplied_rev hs pl pu ps ?_)
  have hno : ¬ ((((items.size : Int) - 1) == 0 && (-1 : Int) == 1 && items.size == items.size) = true) := by
    intro q
    rw [Bool.and_eq_true, Bool.and_eq_true] at q
    exact absurd q.1.2 (by decide)
  show wpAny _ _ (if (((items.size : Int) - 1) == 0 && (-1 : Int) == 1 && items.size == items.size) = true then _ else _) _ _ s
  rw [if_neg hno, pick_rev]
  first
    | exact wpAny_bind (m := Builtin.Tuple.tupleExact _) (wpAny_newObj_type (wpAny_pure ⟨_, rfl, wpAny_pure h⟩) htake)
    | exact wpAny_bind (m := Builtin.Tuple.tupleExact _) (wpAny_newObj_type (wpAny_bind (wpAny_pure (wpAny_pure ⟨_, rfl, wpAny_pure h⟩))) htake)
    | exact wpAny_bind (wpAny_bind (m := Builtin.Tuple.tupleExact _) (wpAny_newObj_type (wpAny_pure (wpAny_pure ⟨_, rfl, wpAny_pure h⟩)) htake))
    | exact wpAny_bind (wpAny_bind (m := Builtin.Tuple.tupleExact _) (wpAny_newObj_type (wpAny_pure ⟨_, rfl, wpAny_pure h⟩) htake))
end
/-- t[::-1] -/
def tRevT (K : PySem.W.Frag) (te : TE) : TE := fun σ H Q => te σ H fun x H1 => ∃ a xs, x = .ref a ∧ ((SqL K H1 a xs ∧ ∀ p, H1 p = none → Q (.ref p) (upd H1 p (.lst xs.reverse))) ∨ (SqT K H1 a xs ∧ ∀ p, H1 p = none → Q (.ref p) (upd H1 p (.tup xs.reverse))))
theorem pe_rev {X : Cx} {e : Expr} {te : TE} {pos : Pos} {k : Nat} {p1 p2 p3 : Pos} (he : PE X e te) : PE X (.Subscript e (.Slice none none (some (.UnaryOp .USub (.Constant (.int 1) k p1) p2)) p3) pos) (tRevT X.K te) := by
  refine ⟨fun pins s σ H Q I h => ?_⟩
  refine Subscript_ (thn (he.run pins s σ H _ I h) fun v s1 ⟨x, H1, I1, r1, q1⟩ => ?_)
  obtain ⟨a, xs, ex, q1⟩ := q1
  subst ex
  cases r1
  have hst : PO X (some (.UnaryOp .USub (.Constant (.int 1) k p1) p2)) (tPart (tUn (rU fun i => .int (-i)) (tC (.int 1)))) := po_some (pe_un un_neg pe_int)
  refine wpAny_Slice (thn (po_none.run pins s1 σ H1 (fun o H2 => o = none ∧ H2 = H1) I1 ⟨rfl, rfl⟩) fun vl s2 ⟨l, H2, I2, pl, el, e2⟩ => ?_)
  subst el e2
  refine thn (po_none.run pins s2 σ H2 (fun o H3 => o = none ∧ H3 = H2) I2 ⟨rfl, rfl⟩) fun vu s3 ⟨u, H3, I3, pu, eu, e3⟩ => ?_
  subst eu e3
  refine thn (hst.run pins s3 σ H3 (fun o H4 => o = some (-1) ∧ H4 = H3) I3 ⟨1, rfl, -1, rfl, rfl, rfl⟩) fun vs s4 ⟨o, H4, I4, ps, eo, e4⟩ => ?_
  subst eo e4
  have I5 : Inv X pins σ H4 { s4 with heap := s4.heap.push { cls := .type "slice", data := .fields #[vl, vu, vs] } } := I4.kept (t' := s4.toks) fun b ob q => Heap.get?_push_of_some _ q
  show wpAny (model X.prog X.w) X.A (subscriptTail e (.Slice none none (some (.UnaryOp .USub (.Constant (.int 1) k p1) p2)) p3) (.ref a) (.ref s4.heap.objs.size)) (EP X pins σ Q) X.xe { s4 with heap := s4.heap.push { cls := .type "slice", data := .fields #[vl, vu, vs] } }
  rcases q1 with ⟨hx, q⟩ | ⟨hx, q⟩
  · obtain ⟨its, r, ht, hz⟩ := I5.list hx
    have hlen := r.length
    refine tail_any (ops := [.ref a, .ref s4.heap.objs.size]) ht.isList.typeIs (PySem.slot_list_getitem.lookup) ?_ (by with_unfolding_all rfl)
    refine wpAny_getItem_list_slice ht.isList (Heap.IsSliceOf.new _ vl vu vs) pl pu ps (by decide) ?_ (by rw [List.size_toArray]; omega)
    rw [PySem.W.krv_pick]
    refine ⟨.ref _, _, I5.laid (t' := s4.toks) (o := .lst xs.reverse) (fun b ob q => Heap.get?_push_of_some _ q) (Nat.le_refl _) ?_, rfl, q _ (I5.hok.fresh (Nat.le_refl _))⟩
    exact ⟨by rw [List.length_reverse]; exact hz, _, 0, r.reverse, Heap.get?_push_size _ rfl⟩
  · obtain ⟨its, r, ht, hz⟩ := I5.tuple hx
    have hlen := r.length
    refine tail_any (ops := [.ref a, .ref s4.heap.objs.size]) ht.typeIs (PyProof.Rows.slot_tuple_getitem.lookup) ?_ (by with_unfolding_all rfl)
    refine getItem_tuple_rev ht (Heap.IsSliceOf.new _ vl vu vs) pl pu ps ?_ (by rw [List.size_toArray]; omega)
    refine ⟨.ref _, _, I5.laid (t' := s4.toks) (o := .tup xs.reverse) (fun b ob q => Heap.get?_push_of_some _ q) (Nat.le_refl _) ?_, rfl, q _ (I5.hok.fresh (Nat.le_refl _))⟩
    exact ⟨by rw [List.length_reverse]; exact hz, _, r.reverse, IsTup.new _ _⟩
/-! ### t * k -/
theorem tuple_mul1 (l : Addr) (items : Array Value) (n : Nat) (dd : Option Addr) (sl : Array (Option Value)) (x : Int) (u : Tok) (c0 : (decide (x < -(2 ^ 63)) || decide (x ≥ 2 ^ 63)) = false) (c1 : (items.isEmpty || x == 1) = true) :
    Meets (Builtin.«tuple.__mul__» ⟨[.ref l, .int x u], []⟩) (fun _ R s => s.heap.get? l = some { cls := .type "tuple", dict := dd, data := .seq items n, slots := sl } ∧ R (.ok (.ret (Value.ref l))) s) :=
  .of_wp fun prog w A R s h => by
    obtain ⟨hp, g, d, tk, os⟩ := s
    obtain ⟨hl, h⟩ := h
    have f1 := AutoSeq1.idx_int
    wp_walk using wpAny_loadPart' hl
    repeat (first
      | (refine wpAny_ite_false (decide_eq_false (by rw [c0]; exact Bool.false_ne_true)) ?_; wp_walk using wpAny_loadPart' hl)
      | (refine wpAny_ite_true (decide_eq_true c1) ?_; wp_walk using wpAny_loadPart' hl))
    exact ⟨_, rfl, h⟩
theorem tuple_mul0 (l : Addr) (items : Array Value) (n : Nat) (dd : Option Addr) (sl : Array (Option Value)) (x : Int) (u : Tok) (c0 : (decide (x < -(2 ^ 63)) || decide (x ≥ 2 ^ 63)) = false) (c1 : (items.isEmpty || x == 1) = false) (c2 : (decide (x ≤ 0) || items.isEmpty) = true) :
    Meets (Builtin.«tuple.__mul__» ⟨[.ref l, .int x u], []⟩) (fun _ R s => s.heap.get? l = some { cls := .type "tuple", dict := dd, data := .seq items n, slots := sl } ∧
      R (.ok (.ret (Value.ref s.heap.objs.size))) { s with heap := s.heap.push { cls := Value.type "tuple", data := Data.seq #[] }, toks := s.toks }) :=
  .of_wp fun prog w A R s h => by
    obtain ⟨hp, g, d, tk, os⟩ := s
    obtain ⟨hl, h⟩ := h
    have f1 := AutoSeq1.idx_int
    have hsz : (#[] : Array Value).size ≤ sizeLine := Nat.zero_le _
    wp_walk using wpAny_loadPart' hl
    repeat (first
      | (refine wpAny_ite_false (decide_eq_false (by rw [c0]; exact Bool.false_ne_true)) ?_; wp_walk using wpAny_loadPart' hl)
      | (refine wpAny_ite_false (decide_eq_false (by rw [c1]; exact Bool.false_ne_true)) ?_; wp_walk using wpAny_loadPart' hl)
      | (refine wpAny_ite_true (decide_eq_true c2) ?_; wp_walk using wpAny_loadPart' hl))
    exact ⟨_, rfl, h⟩
def rRepA (K : PySem.W.Frag) : R2 := fun x y H Q => ∃ l k xs, x = .ref l ∧ y = .int k ∧ SqT K H l xs ∧ -(2 ^ 62) ≤ k ∧ k ≤ 1000 ∧ xs.length ≤ 1000 ∧
  (xs = [] ∨ k = 1 → Q (.ref l) H) ∧ (xs ≠ [] → k ≠ 1 → ∀ p, H p = none → Q (.ref p) (upd H p (.tup (List.replicate k.toNat xs).flatten)))
theorem op_repA {X : Cx} : OpR X (binaryOp .Mult) (rRepA X.K) := by
  intro pins s σ H x y v u Q I rx ry h
  obtain ⟨l, k, xs, rfl, rfl, hT, h0, h2, hz, q1, q2⟩ := h
  by_cases c : xs ≠ [] ∧ 2 ≤ k
  · exact op_repT pins s σ H _ _ v u Q I rx ry ⟨l, k, xs, rfl, rfl, hT, c.1, c.2, h2, hz, q2 c.1 (by omega)⟩
  cases rx
  obtain ⟨t, rfl⟩ := ry
  obtain ⟨its, r, ⟨⟨cls, dd, data, sl⟩, ho, hc, n, hd⟩, hs⟩ := I.tuple hT
  simp only at hc hd
  subst hc hd
  have hle : its.length = xs.length := r.length.symm
  have c0 : (decide (k < -(2 ^ 63)) || decide (k ≥ 2 ^ 63)) = false := by
    rw [decide_eq_false (by omega), decide_eq_false (by omega)] <;> rfl
  have em : its.toArray.isEmpty = decide (xs = []) := by
    cases its with
    | nil =>
      have : xs = [] := List.eq_nil_of_length_eq_zero hle.symm
      rw [this] <;> rfl
    | cons a b =>
      have : xs ≠ [] := fun e => by rw [e] at hle; cases hle
      rw [decide_eq_false this] <;> rfl
  have go : ∀ {R : Value → Shared → Prop}, (∀ (g : Meets (Builtin.«tuple.__mul__» ⟨[.ref l, .int k t], []⟩) (fun _ R s => s.heap.get? l = some { cls := .type "tuple", dict := dd, data := .seq its.toArray n, slots := sl } ∧ True)), True) → True := fun _ => trivial
  by_cases c1 : xs = [] ∨ k = 1
  · have e1 : (its.toArray.isEmpty || k == 1) = true := by
      rw [em]
      rcases c1 with e | e
      · rw [decide_eq_true e] <;> rfl
      · rw [e] <;> simp
    refine wpAny_binaryOp_repeat_ref (T := "tuple") (U := "int") (by decide) ⟨_, ho, rfl⟩ (fun s' => typeIs_int s' k t) noFill_tuple_mul F.fills_int_mul F.slot_int_rmul repeat_tuple F.slot_int_index.lookup
      (call_meets F.slot_int_rmul (typeIs_int s k t) F.entry_int_rmul (F.args_int_rmul_2 _ _) (int_rmul_tuple k t l its.toArray n dd sl)
        ⟨ho, rfl, ⟨_, ho, rfl⟩, call_meets F.slot_tuple_mul ⟨_, ho, rfl⟩ F.entry_tuple_mul (F.args_tuple_mul_2 _ _) (tuple_mul1 l its.toArray n dd sl k t c0 e1) ⟨ho, ?_⟩⟩)
    exact ⟨.ref l, H, I, rfl, q1 c1⟩
  · have n1 : xs ≠ [] := fun e => c1 (.inl e)
    have n2 : k ≠ 1 := fun e => c1 (.inr e)
    have e1 : (its.toArray.isEmpty || k == 1) = false := by
      rw [em, decide_eq_false n1, Bool.false_or]
      exact beq_eq_false_iff_ne.mpr n2
    have k0 : k ≤ 0 := by
      have : ¬ 2 ≤ k := fun e => c ⟨n1, e⟩
      omega
    have e2 : (decide (k ≤ 0) || its.toArray.isEmpty) = true := by
      rw [decide_eq_true k0] <;> rfl
    refine wpAny_binaryOp_repeat_ref (T := "tuple") (U := "int") (by decide) ⟨_, ho, rfl⟩ (fun s' => typeIs_int s' k t) noFill_tuple_mul F.fills_int_mul F.slot_int_rmul repeat_tuple F.slot_int_index.lookup
      (call_meets F.slot_int_rmul (typeIs_int s k t) F.entry_int_rmul (F.args_int_rmul_2 _ _) (int_rmul_tuple k t l its.toArray n dd sl)
        ⟨ho, rfl, ⟨_, ho, rfl⟩, call_meets F.slot_tuple_mul ⟨_, ho, rfl⟩ F.entry_tuple_mul (F.args_tuple_mul_2 _ _) (tuple_mul0 l its.toArray n dd sl k t c0 e1 e2) ⟨ho, ?_⟩⟩)
    have ez : (List.replicate k.toNat xs).flatten = [] := by
      have : k.toNat = 0 := by omega
      rw [this] <;> rfl
    have q := q2 n1 n2
    rw [ez] at q
    refine ⟨.ref s.heap.objs.size, _, I.laid (t' := s.toks) (o := .tup []) (fun b ob q => Heap.get?_push_of_some _ q) (Nat.le_refl _) ?_, rfl, q _ (I.hok.fresh (Nat.le_refl _))⟩
    exact ⟨Nat.zero_le _, [], .nil, IsTup.new _ _⟩
end TupX
set_option Elab.async false
set_option linter.all false
set_option maxRecDepth 100000
set_option maxHeartbeats 4000000
/-! Dl6: rules that take any kind of operand; calls by name. -/
namespace Dl
open PySem PySem.Spec PyProof.Rows L2
/-! ### operators whose operands' kinds the reading finds -/
def rStrCat : R2 := fun x y H Q => ∃ i j, x = .str i ∧ y = .str j ∧ i.length + j.length ≤ sizeLine ∧ Q (.str (i ++ j)) H
def rAddA (K : PySem.W.Frag) : R2 := fun x y H Q => (rI0 fun i j => .int (i + j)) x y H Q ∨ rCat x y H Q ∨ rCatA K x y H Q ∨ rStrCat x y H Q
theorem op_addA {X : Cx} : OpR X (binaryOp .Add) (rAddA X.K) := op_add.or (op_cat.or (op_catA.or op_add_str))
def rMulA (K : PySem.W.Frag) : R2 := fun x y H Q => (rI CMul fun i j => .int (i * j)) x y H Q ∨ rRep x y H Q ∨ TupX.rRepA K x y H Q
theorem op_mulA {X : Cx} : OpR X (binaryOp .Mult) (rMulA X.K) := op_mul.or (op_rep.or TupX.op_repA)
def rEqA (K : PySem.W.Frag) : R2 := fun x y H Q => rEq x y H Q ∨ rEqD K x y H Q
theorem op_eqA {X : Cx} (hu : X.A.units + 64 < cLine) : OpR X (compareOp .Eq) (rEqA X.K) := op_eq.or (op_eqD hu)
def rNeA (K : PySem.W.Frag) : R2 := fun x y H Q => rNe x y H Q ∨ rNeD K x y H Q
theorem op_neA {X : Cx} (hu : X.A.units + 64 < cLine) : OpR X (compareOp .NotEq) (rNeA X.K) := op_ne.or (op_neD hu)
def rInA (K : PySem.W.Frag) : R2 := fun x y H Q => rIn K false x y H Q ∨ rInD K x y H Q
theorem op_inA {X : Cx} (hu : X.A.units + 65 < cLine) : OpR X (compareOp .In) (rInA X.K) := op_in_seq.or (op_inD hu)
def rNotInA (K : PySem.W.Frag) : R2 := fun x y H Q => rIn K true x y H Q ∨ rNotInD K x y H Q
theorem op_notInA {X : Cx} (hu : X.A.units + 65 < cLine) : OpR X (compareOp .NotIn) (rNotInA X.K) := op_notIn_seq.or (op_notInD hu)
def rSlG (K : PySem.W.Frag) : V → Option Int → Option Int → Hp → VK → Prop := fun x lo hi H Q => rSlL K x lo hi H Q ∨ rSlA K x lo hi H Q
theorem sl_any {X : Cx} : SlR X (rSlG X.K) := sl_list.or sl_tupA
def iSeq (K : PySem.W.Frag) (tl : TE) : TI := fun σ H R => tl σ H fun x H1 => ∃ a, x = .ref a ∧ (((∃ xs, SqL K H1 a xs) ∧ R (Itl K a) H1) ∨ ((∃ xs, SqT K H1 a xs) ∧ R (Itt K a) H1))
theorem pi_seq {X : Cx} {tg l : Expr} {tl : TE} (hl : PE X l tl) : PI X tg l (iSeq X.K tl) := by
  refine ⟨fun pins s σ H R I h => ?_⟩
  refine thn (hl.run pins s σ H _ I h) fun v s1 ⟨x, H1, I1, r1, q1⟩ => ?_
  obtain ⟨a, e, ⟨⟨xs, hq⟩, q⟩ | ⟨⟨xs, hq⟩, q⟩⟩ := q1
  · subst e
    cases r1
    obtain ⟨its, rv, p, hz⟩ := I1.list hq
    refine wpAny_pyIter_list p.isList ?_
    refine ⟨s1.heap.objs.size, [s1.heap.objs.size], _, _, H1, rfl, I1.kept (t' := s1.toks) fun b o e => Heap.get?_push_of_some _ e, turn_list a _, ⟨_, Heap.get?_push_size _ rfl, rfl, rfl⟩, fun b hb => ?_, q⟩
    have e : b = s1.heap.objs.size := by simpa using hb
    subst e
    exact I1.fpOk (Nat.le_refl _) (I1.hok.fresh (Nat.le_refl _))
  · subst e
    cases r1
    obtain ⟨its, rv, p, hz⟩ := I1.tuple hq
    refine wpAny_pyIter_tuple (show s1.heap.IsTuple a its.toArray from p) ?_
    refine ⟨s1.heap.objs.size, [s1.heap.objs.size], _, _, H1, rfl, I1.kept (t' := s1.toks) fun b o e => Heap.get?_push_of_some _ e, turn_tuple a _, ⟨_, Heap.get?_push_size _ rfl, rfl, rfl⟩, fun b hb => ?_, q⟩
    have e : b = s1.heap.objs.size := by simpa using hb
    subst e
    exact I1.fpOk (Nat.le_refl _) (I1.hok.fresh (Nat.le_refl _))
section
variable {F : Fm} {ks : List Kd} {M : List Addr} {σ : Sg} {H H' : Hp}
theorem OpV.inl {r s : R2} {x y : D} {R : D → Prop} (h : OpV F ks r x y R) : OpV F ks (fun x y H Q => r x y H Q ∨ s x y H Q) x y R := fun M σ H o v w a b Q q => .inl (h M σ H o v w a b Q q)
theorem OpV.inr {r s : R2} {x y : D} {R : D → Prop} (h : OpV F ks s x y R) : OpV F ks (fun x y H Q => r x y H Q ∨ s x y H Q) x y R := fun M σ H o v w a b Q q => .inr (h M σ H o v w a b Q q)
theorem av_int {i j : Int} : OpV F ks (rAddA F.K) (.int i) (.int j) (fun d => d = .int (i + j)) := fun M σ H o v w a b Q q => .inl (opv_I0 M σ H o v w a b Q q)
theorem av_tup {xs ys : List D} (h : xs.length + ys.length ≤ sizeLine) : OpV F ks (rAddA F.K) (.tup xs) (.tup ys) (fun d => d = .tup (xs ++ ys)) := fun M σ H o v w a b Q q => .inr (.inr (.inl (opv_catA h M σ H o v w a b Q q)))
theorem av_str {i j : Str} (h : i.length + j.length ≤ sizeLine) : OpV F ks (rAddA F.K) (.str i) (.str j) (fun d => d = .str (i ++ j)) := fun M σ H o v w a b Q q => .inr (.inr (.inr (by
  cases a; cases b
  exact ⟨i, j, rfl, rfl, h, q _ _ H o .refl (.str _) rfl⟩)))
theorem av_lst {xs ys : List D} (h : xs.length + ys.length ≤ sizeLine) : OpVL F ks (rAddA F.K) (.lst xs) (.lst ys) (fun d => d = xs ++ ys) := fun M σ H o v w a b Q q => .inr (.inl (opv_catL h M σ H o v w a b Q q))
theorem mv_int {i j : Int} (h : CMul i j) : OpV F ks (rMulA F.K) (.int i) (.int j) (fun d => d = .int (i * j)) := fun M σ H o v w a b Q q => .inl (opv_I h M σ H o v w a b Q q)
theorem mv_rep1 {d : D} {k : Int} (h0 : -(2 ^ 62) ≤ k) (h1 : k ≤ 1000000) : OpVL F ks (rMulA F.K) (.lst [d]) (.int k) (fun x => x = List.replicate k.toNat d) := fun M σ H o v w a b Q q => .inr (.inl (opv_rep1 h0 h1 M σ H o v w a b Q q))
theorem mv_repT {d : D} {k : Int} (h0 : -(2 ^ 62) ≤ k) (h1 : k ≤ 1000) : OpV F ks (rMulA F.K) (.tup [d]) (.int k) (fun x => x = .tup (List.replicate k.toNat d)) := fun M σ H o v w a b Q q => .inr (.inr (by
  cases b
  cases a with
  | tup hl hs =>
    have hs' := hs
    cases hs with
    | cons ha hn =>
      cases hn
      rename_i p u
      refine ⟨p, k, [u], rfl, rfl, same_t hid_same hl, h0, h1, by show 1 ≤ 1000; decide, fun c => ?_, fun _ _ t n => ?_⟩
      · rcases c with c | c
        · cases c
        · subst c
          exact q _ _ H o .refl (.tup hl hs') rfl
      · rw [flat1]
        obtain ⟨o2, s2, a2⟩ := tup_new o (Ats.rep ha k.toNat) n
        exact q _ _ _ o2 s2 a2 rfl))
theorem eqv_ints (i j : Int) : PyData.eqv (py (.int i)) (py (.int j)) = decide (i = j) := by
  simp only [py, PyData.eqv]
  by_cases h : i = j
  · simp [h]
  · simp [h]
theorem qv_int {i j : Int} : OpV F ks (rEqA F.K) (.int i) (.int j) (fun d => d = .bl (decide (i = j))) := fun M σ H o v w a b Q q => .inl (opv_eqI M σ H o v w a b Q q)
theorem qv_bl {i j : Bool} : OpV F ks (rEqA F.K) (.bl i) (.bl j) (fun d => d = .bl (i == j)) := fun M σ H o v w a b Q q => .inl (opv_eqB M σ H o v w a b Q q)
theorem qv_dat {x y : D} (hx : okD x = true) (hy : okD y = true) : OpV F ks (rEqA F.K) x y (fun d => d = .bl (PyData.eqv (py x) (py y))) := fun M σ H o v w a b Q q => .inr (opv_eqD hx hy M σ H o v w a b Q q)
theorem nv_int {i j : Int} : OpV F ks (rNeA F.K) (.int i) (.int j) (fun d => d = .bl (!decide (i = j))) := fun M σ H o v w a b Q q => .inl (opv_neI M σ H o v w a b Q q)
theorem nv_dat {x y : D} (hx : okD x = true) (hy : okD y = true) : OpV F ks (rNeA F.K) x y (fun d => d = .bl (!PyData.eqv (py x) (py y))) := fun M σ H o v w a b Q q => .inr (opv_neD hx hy M σ H o v w a b Q q)
theorem iv_ints {i : Int} {y : D} {ns : List Int} (hy : y = .lst (ns.map D.int) ∨ y = .tup (ns.map D.int)) : OpV F ks (rInA F.K) (.int i) y (fun d => d = .bl (decide (i ∈ ns))) := fun M σ H o v w a b Q q => .inl (opv_inI hy M σ H o v w a b Q q)
theorem niv_ints {i : Int} {y : D} {ns : List Int} (hy : y = .lst (ns.map D.int) ∨ y = .tup (ns.map D.int)) : OpV F ks (rNotInA F.K) (.int i) y (fun d => d = .bl (!decide (i ∈ ns))) := fun M σ H o v w a b Q q => .inl (opv_notInI hy M σ H o v w a b Q q)
theorem iv_dat {x : D} {ys : List D} (hx : okD x = true) (hy : okD (.lst ys) = true) : OpV F ks (rInA F.K) x (.lst ys) (fun d => d = .bl (ys.any fun z => PyData.eqv (py z) (py x))) := fun M σ H o v w a b Q q => .inr (opv_inD hx hy M σ H o v w a b Q q)
theorem niv_dat {x : D} {ys : List D} (hx : okD x = true) (hy : okD (.lst ys) = true) : OpV F ks (rNotInA F.K) x (.lst ys) (fun d => d = .bl (!ys.any fun z => PyData.eqv (py z) (py x))) := fun M σ H o v w a b Q q => .inr (opv_notInD hx hy M σ H o v w a b Q q)
theorem el_sl {te : TE} {tl th : TO} {ds : List D} {lo hi : Option Int} (h : Ev F ks te (.lst ds)) (h1 : EvO F ks tl lo) (h2 : EvO F ks th hi) : EvL F ks (tSl (rSlG F.K) te tl th) (cutG ds lo hi) := fun M σ H o Q q =>
  h M σ H o _ fun v d H1 o1 s1 a1 e => h1 M σ H1 o1 _ fun H2 o2 s2 => h2 M σ H2 o2 _ fun H3 o3 s3 => by
    subst e
    have a3 := (a1.mono (o1.hidStep s2)).mono (o2.hidStep s3)
    cases a3 with
    | lst hl hs =>
      refine .inl ⟨_, _, rfl, .inl (.inl (hid_same _ _ hl)), fun p n => ?_⟩
      obtain ⟨o4, s4, l4, a4⟩ := lst_new o3 (Ats.cut (lo := lo) (hi := hi) hs) n
      refine q _ _ _ _ ?_ o4 (((s1.trans s2).trans s3).trans s4) l4 a4 rfl
      cases e : H p with
      | none => rfl
      | some u =>
        rw [((s1.trans s2).trans s3) _ _ e (o3.noOwn n)] at n
        cases n
theorem el_slS' {te : TE} {tl th : TO} {ds : List D} {lo hi : Option Int} (h : Ev F ks te (.sls ds)) (h1 : EvO F ks tl lo) (h2 : EvO F ks th hi) : EvL F ks (tSl (rSlG F.K) te tl th) (cutG ds lo hi) := fun M σ H o Q q =>
  h M σ H o _ fun v d H1 o1 s1 a1 e => h1 M σ H1 o1 _ fun H2 o2 s2 => h2 M σ H2 o2 _ fun H3 o3 s3 => by
    subst e
    have a3 := (a1.mono (o1.hidStep s2)).mono (o2.hidStep s3)
    cases a3 with
    | sls hl hs =>
      refine .inl ⟨_, _, rfl, same_l hid_same hl, fun p n => ?_⟩
      obtain ⟨o4, s4, l4, a4⟩ := lst_new o3 (Ats.cut (lo := lo) (hi := hi) hs) n
      refine q _ _ _ _ ?_ o4 (((s1.trans s2).trans s3).trans s4) l4 a4 rfl
      cases e : H p with
      | none => rfl
      | some u =>
        rw [((s1.trans s2).trans s3) _ _ e (o3.noOwn n)] at n
        cases n
theorem ev_sl {te : TE} {tl th : TO} {ds : List D} {lo hi : Option Int} (h : Ev F ks te (.tup ds)) (h1 : EvO F ks tl lo) (h2 : EvO F ks th hi) : Ev F ks (tSl (rSlG F.K) te tl th) (.tup (cutG ds lo hi)) := fun M σ H o Q q =>
  h M σ H o _ fun v d H1 o1 s1 a1 e => h1 M σ H1 o1 _ fun H2 o2 s2 => h2 M σ H2 o2 _ fun H3 o3 s3 => by
    subst e
    have a3 := (a1.mono (o1.hidStep s2)).mono (o2.hidStep s3)
    have a3' := a3
    cases a3 with
    | tup hl hs =>
      refine .inr ⟨_, _, rfl, same_t hid_same hl, fun w => ?_, fun _ p n => ?_⟩
      · refine q _ _ H3 o3 ((s1.trans s2).trans s3) a3' ?_
        unfold cutG
        rw [hs.length] at w
        rw [w.1, w.2, List.drop_zero, Nat.sub_zero, List.take_length]
      · obtain ⟨o4, s4, a4⟩ := tup_new o3 (Ats.cut (lo := lo) (hi := hi) hs) n
        exact q _ _ _ o4 (((s1.trans s2).trans s3).trans s4) a4 rfl
/-- t[::-1] -/
theorem ev_rev {te : TE} {ds : List D} (h : Ev F ks te (.tup ds)) : Ev F ks (TupX.tRevT F.K te) (.tup ds.reverse) := fun M σ H o Q q =>
  h M σ H o _ fun v d H1 o1 s1 a1 e => by
    subst e
    cases a1 with
    | tup hl hs =>
      refine ⟨_, _, rfl, .inr ⟨same_t hid_same hl, fun p n => ?_⟩⟩
      obtain ⟨o4, s4, a4⟩ := tup_new o1 hs.reverse n
      exact q _ _ _ o4 (s1.trans s4) a4 rfl
theorem ei_seqR {te : TE} {RI : List D → Prop} (h : EvR F ks te (fun d => ∃ ds, RI ds ∧ (d = .lst ds ∨ d = .tup ds))) : EvIR F ks (iSeq F.K te) RI := fun M σ H o R q => h M σ H o _ fun v d H1 o1 s1 a1 ⟨ds, r1, e⟩ => by
  rcases e with e | e
  · subst e
    cases a1 with
    | lst hl hs => exact ⟨_, rfl, .inl ⟨⟨_, .inl (.inl (hid_same _ _ hl))⟩, q _ _ ds H1 o1 s1 r1 (itl_ok rfl) ⟨_, .inl (.inl hl), hs⟩⟩⟩
  · subst e
    cases a1 with
    | tup hl hs => exact ⟨_, rfl, .inr ⟨⟨_, same_t hid_same hl⟩, q _ _ ds H1 o1 s1 r1 (itt_ok rfl) ⟨_, hl, hs⟩⟩⟩
theorem ei_seq {te : TE} {x : D} {ds : List D} (h : Ev F ks te x) (hx : x = .lst ds ∨ x = .tup ds) : EvI F ks (iSeq F.K te) ds := ei_seqR (h.imp fun d e => ⟨ds, rfl, by rw [e]; exact hx⟩)
theorem ei_seqL {te : TE} {ds : List D} (h : Ev F ks te (.lst ds)) : EvI F ks (iSeq F.K te) ds := ei_seq h (.inl rfl)
theorem ei_seqT {te : TE} {ds : List D} (h : Ev F ks te (.tup ds)) : EvI F ks (iSeq F.K te) ds := ei_seq h (.inr rfl)
theorem ei_seqN {te : TE} {ds : List D} (h : EvL F ks te ds) : EvI F ks (iSeq F.K te) ds := ei_seqL (ev_lst h)
theorem ei_seqS {te : TE} {ds : List D} (h : Ev F ks te (.sls ds)) : EvI F ks (iSeq F.K te) ds := fun M σ H o R q => h M σ H o _ fun v d H1 o1 s1 a1 e => by
  subst e
  cases a1 with
  | sls hl hs => exact ⟨_, rfl, .inl ⟨⟨_, same_l hid_same hl⟩, q _ _ ds H1 o1 s1 rfl (itl_ok rfl) ⟨_, hl, hs⟩⟩⟩
/-- xs[j], t[j] -/
theorem ev_ix {ta tb : TE} {x : D} {ds : List D} {i : Int} {d : D} (ha : Ev F ks ta x) (hb : Ev F ks tb (.int i)) (hx : x = .lst ds ∨ x = .tup ds) (h : atI ds i = some d) : Ev F ks (tOp (rIx F.K) ta tb) d := ev_op ha hb (opv_ix hx h)
theorem ev_ixT {ta tb : TE} {ds : List D} {i : Int} {d : D} (ha : Ev F ks ta (.tup ds)) (hb : Ev F ks tb (.int i)) (h : atI ds i = some d) : Ev F ks (tOp (rIx F.K) ta tb) d := ev_ix ha hb (.inr rfl) h
theorem ev_ixL {ta tb : TE} {ds : List D} {i : Int} {d : D} (ha : Ev F ks ta (.lst ds)) (hb : Ev F ks tb (.int i)) (h : atI ds i = some d) : Ev F ks (tOp (rIx F.K) ta tb) d := ev_ix ha hb (.inl rfl) h
theorem ev_ixM {i : Nat} {k : Kd} {tj : TE} {j : Int} {R : D → Prop} (hk : ks[i]? = some k) (hm : isM k = true) (h : Ev F ks tj (.int j)) (hj : ∀ ds, wishK k ds → ∃ d, atI ds j = some d ∧ R d) : EvR F ks (tOp (rIx F.K) (tVar i) tj) R := fun M σ H o Q q => by
  have h0 := ev_ixO hk hm h hj M σ H o Q q
  obtain ⟨v, e, h1⟩ := h0
  exact ⟨v, e, (h M σ H o (fun y H2 => rIxL F.K v y H2 Q → rIx F.K v y H2 Q) fun v d H' _ _ _ _ z => .inl z) |> fun z => by
    obtain ⟨p, g1, g2, g3, vs, ds, g4, g5, g6⟩ := o.wish hk hm
    rw [e] at g1
    cases g1
    refine h M σ H o _ fun v d H1 o1 s1 a1 e1 => ?_
    subst e1
    cases a1
    obtain ⟨p', h1', h2, h3, vs, ds, h4, h5, h6⟩ := o1.wish hk hm
    rw [e] at h1'
    cases h1'
    obtain ⟨d, g1, g2⟩ := hj ds h6
    have e : ∃ u, atI vs j = some u ∧ At F.K (hid M H1) u d := by
      unfold atI at g1 ⊢
      rw [h5.length]
      cases z : ixN ds.length j with
      | none => rw [z] at g1; cases g1
      | some m =>
        rw [z] at g1
        exact h5.get g1
    obtain ⟨u, e1, e2⟩ := e
    exact .inl ⟨_, vs, j, u, rfl, rfl, .inl (.inl h4), e1, q _ _ H1 o1 s1 e2 g2⟩⟩
end
/-! ### a def by its name -/
/-- the def x keeps sp -/
def Df (P : Program) (w : World) (K : PySem.W.Frag) (mg : Str → Option Value) (base : Heap) (x : Str) (k : Nat) (ps : List Str) (sp : Sp) : Prop :=
  ∃ f fd, FnOk P w K mg base (L2.CX P w) k f fd ps sp ∧ mg x = some (.ref f) ∧ PySem.W.keepIn K (.ref f) = true ∧ Binds K fd ps []
theorem pe_callD {X : Cx} {k : Nat} {ps : List Str} {sp : Sp} {x : Str} {p pos : Pos} {e : Expr} {es : List Expr} {t : TA} (h : Df X.prog X.w X.K X.mg X.base x k ps sp) (hr : Room k X.A) (hg : Gl X x) (ha : PA X (e :: es) t) (hdb : (x == ("__debug__" : Str)) = false := by decide)
    (he : starEach (e :: es) X.env = (false, eval e X.env) :: starEach es X.env := by rfl) (hpl : (backTo pos (starEach es X.env)).any (·.1) = false := by rfl) : PE X (.Call (.Name x p) (e :: es) [] pos) (tCall sp [] E0 t) := by
  obtain ⟨f, fd, G, hm, hk, hb⟩ := h
  exact pe_call G hr hg hm hk hb .nil passL ha hdb he hpl
theorem pe_callD0 {X : Cx} {k : Nat} {ps : List Str} {sp : Sp} {x : Str} {p pos : Pos} (h : Df X.prog X.w X.K X.mg X.base x k ps sp) (hr : Room k X.A) (hg : Gl X x) (hdb : (x == ("__debug__" : Str)) = false := by decide) : PE X (.Call (.Name x p) [] [] pos) (tCall sp [] E0 tNil) := by
  obtain ⟨f, fd, G, hm, hk, hb⟩ := h
  exact pe_call0 G hr hg hm hk hb .nil passL hdb
theorem pw_and1' {X : Cx} {e : Expr} {t : TT} (h : PT X e t) : True := trivial
end Dl
set_option Elab.async false
set_option linter.all false
set_option maxRecDepth 100000
set_option maxHeartbeats 4000000
/-! Dl7: the rules with the written part told; short words for the scripts. -/
namespace Dl
open PySem PySem.Spec PyProof.Rows L2
section
variable {X : Cx} (K : PySem.W.Frag) {a b c e l : Expr} {ta tb tc te tl : TE} {pos p p2 : Pos}
theorem pe_addK (ha : PE X a ta) (hb : PE X b tb) (hK : X.K = K := by rfl) : PE X (.BinOp a .Add b pos) (tOp (rAddA K) ta tb) := by subst hK; exact pe_op op_addA ha hb
theorem pe_mulK (ha : PE X a ta) (hb : PE X b tb) (hK : X.K = K := by rfl) : PE X (.BinOp a .Mult b pos) (tOp (rMulA K) ta tb) := by subst hK; exact pe_op op_mulA ha hb
theorem pe_ixK (ha : PE X a ta) (hb : PE X b tb) (hs : PlainIx b) (hK : X.K = K := by rfl) : PE X (.Subscript a b pos) (tOp (rIx K) ta tb) := by subst hK; exact pe_ix ix_seq ha hb hs
theorem op_eqK (hu : X.A.units + 64 < cLine) (hK : X.K = K := by rfl) : OpR X (compareOp .Eq) (rEqA K) := by subst hK; exact op_eqA hu
theorem op_neK (hu : X.A.units + 64 < cLine) (hK : X.K = K := by rfl) : OpR X (compareOp .NotEq) (rNeA K) := by subst hK; exact op_neA hu
theorem op_inK (hu : X.A.units + 65 < cLine) (hK : X.K = K := by rfl) : OpR X (compareOp .In) (rInA K) := by subst hK; exact op_inA hu
theorem op_notInK (hu : X.A.units + 65 < cLine) (hK : X.K = K := by rfl) : OpR X (compareOp .NotIn) (rNotInA K) := by subst hK; exact op_notInA hu
theorem pe_sliceK {lo hi : Option Expr} {t1 t2 : TO} (he : PE X e te) (hl : PO X lo t1) (hu : PO X hi t2) (hK : X.K = K := by rfl) : PE X (.Subscript e (.Slice lo hi none p2) pos) (tSl (rSlG K) te t1 t2) := by subst hK; exact pe_slice sl_any he hl hu
theorem pe_revK {k : Nat} {p1 p3 : Pos} (he : PE X e te) (hK : X.K = K := by rfl) : PE X (.Subscript e (.Slice none none (some (.UnaryOp .USub (.Constant (.int 1) k p1) p2)) p3) pos) (TupX.tRevT K te) := by subst hK; exact TupX.pe_rev he
theorem pi_seqK {tg : Expr} (hl : PE X l tl) (hK : X.K = K := by rfl) : PI X tg l (iSeq K tl) := by subst hK; exact pi_seq hl
theorem pi_zipK {e2 : Expr} {ta : TA} {tpos : Pos} {elts : List Expr} {kk : Nat} (hg : Gl X "zip") (hm : X.mg "zip" = none) (ha : PA X [e, e2] ta) (hK : X.K = K := by rfl)
    (hs : starEach [e, e2] X.env = (false, eval e X.env) :: starEach [e2] X.env := by rfl) (hpl : (backTo pos (starEach [e2] X.env)).any (·.1) = false := by rfl) :
    PI X (.Tuple elts kk tpos) (.Call (.Name "zip" p) [e, e2] [] pos) (RZ.iZipA K ta) := by subst hK; exact RZ.pi_zipA hg hm ha hs hpl
abbrev rLenK (K : PySem.W.Frag) : List V → Hp → VK → Prop := fun xs H Q => ∃ x n, xs = [x] ∧ LenV K x H n ∧ Q (.int n) H
theorem call_lenK (hK : X.K = K := by rfl) : CallR X (.builtin "len") (rLenK K) := by subst hK; exact call_len
theorem call_tupleK (hK : X.K = K := by rfl) : CallR X (.type "tuple") (rTupOf K) := by subst hK; exact call_tuple_of
theorem call_listK (hK : X.K = K := by rfl) : CallR X (.type "list") (rLstOf K) := by subst hK; exact call_list_of
theorem cr_sumK (hc : X.calm = true) (hK : X.K = K := by rfl) : CallR X (.builtin "sum") (rSum K) := by subst hK; exact cr_sum hc
theorem cr_minK' (hc : X.calm = true) (hK : X.K = K := by rfl) : CallR X (.builtin "min") (rMin K) := by subst hK; exact cr_min hc
theorem call_isiK' (hK : X.K = K := by rfl) : CallR X (.builtin "isinstance") (rIsi K) := by subst hK; exact call_isi
theorem call_isiTK (hK : X.K = K := by rfl) : CallR X (.builtin "isinstance") (rIsiT K) := by subst hK; exact call_isiT
abbrev rInt1 : List V → Hp → VK → Prop := fun xs H Q => (∃ i, xs = [.int i] ∧ Q (.int i) H) ∨ ∃ k, xs = [.bl k] ∧ Q (.int (if k then 1 else 0)) H
abbrev rAbs : List V → Hp → VK → Prop := fun xs H Q => ∃ i, xs = [.int i] ∧ Q (.int (if i < 0 then -i else i)) H
abbrev rMin2 : List V → Hp → VK → Prop := fun xs H Q => ∃ i j, xs = [.int i, .int j] ∧ Q (.int (if j < i then j else i)) H
end
section
variable {F : Fm} {ks : List Kd}
theorem cav_int {i : Int} : CaV F ks rInt1 [.int i] (fun d => d = .int i) := fun M σ H o vs a Q q => by
  have e := Ats.ints (ns := [i]) a
  subst e
  exact .inl ⟨i, rfl, q _ _ H o .refl (.int _) rfl⟩
theorem cav_intB {b : Bool} : CaV F ks rInt1 [.bl b] (fun d => d = .int (if b then 1 else 0)) := fun M σ H o vs a Q q => by
  cases a with
  | cons a1 a2 =>
    cases a2
    cases a1
    exact .inr ⟨b, rfl, q _ _ H o .refl (.int _) rfl⟩
theorem cav_abs {i : Int} : CaV F ks rAbs [.int i] (fun d => d = .int (if i < 0 then -i else i)) := fun M σ H o vs a Q q => by
  have e := Ats.ints (ns := [i]) a
  subst e
  exact ⟨i, rfl, q _ _ H o .refl (.int _) rfl⟩
theorem cav_min2 {i j : Int} : CaV F ks rMin2 [.int i, .int j] (fun d => d = .int (if j < i then j else i)) := fun M σ H o vs a Q q => by
  have e := Ats.ints (ns := [i, j]) a
  subst e
  exact ⟨i, j, rfl, q _ _ H o .refl (.int _) rfl⟩
end
/-- a row of numbers -/
abbrev rw (v : List Int) : D := .tup (v.map D.int)
abbrev rws (l : List (List Int)) : List D := l.map rw
theorem Room.units65 {k : Nat} {A : Around} (r : L2.Room k A) : A.units + 65 < cLine := by have := r.un; omega
theorem at_nat {α : Type} {xs : List α} {j : Nat} (h : j < xs.length) : atI xs (j : Int) = some xs[j] := atI_nat (List.getElem?_eq_getElem h)
theorem at_map {α β : Type} {f : α → β} {xs : List α} {j : Nat} (h : j < xs.length) : atI (xs.map f) (j : Int) = some (f xs[j]) := atI_nat (by rw [List.getElem?_map, List.getElem?_eq_getElem h]; rfl)
theorem cm_r {i j : Int} (h : -(2 ^ 64) < j ∧ j < 2 ^ 64) : CMul i j := .inr h
theorem cm_l {i j : Int} (h : -(2 ^ 64) < i ∧ i < 2 ^ 64) : CMul i j := .inl h
theorem sz {n : Nat} (h : n ≤ 10000000) : n ≤ sizeLine := Nat.le_trans h (by decide)
theorem szl {n : Nat} (h : n ≤ 10000000) : n < sizeLine := Nat.lt_of_le_of_lt h (by decide)
theorem rw_map {α : Type} (f : α → Int) (xs : List α) : D.tup (xs.map fun x => .int (f x)) = rw (xs.map f) := by
  show _ = D.tup _
  rw [List.map_map]
  rfl
theorem at_getD {α β : Type} {f : α → β} {xs : List α} {j : Nat} (d : α) (h : j < xs.length) : atI (xs.map f) (j : Int) = some (f (xs.getD j d)) := by
  rw [at_map h, List.getD_eq_getElem?_getD, List.getElem?_eq_getElem h]
  rfl
theorem map_erase {α β : Type} (f : α → β) : ∀ (l : List α) (i : Nat), (l.map f).eraseIdx i = (l.eraseIdx i).map f
  | [], _ => rfl
  | _ :: _, 0 => rfl
  | a :: l, i + 1 => by
    rw [List.map_cons, List.eraseIdx_cons_succ, List.eraseIdx_cons_succ, List.map_cons, map_erase f l i]
theorem KsLe.rfl' (ks : List Kd) : KsLe ks ks := ⟨rfl, fun i k k' h1 h2 => by
  rw [h1] at h2
  cases h2
  exact KLe.refl k⟩
theorem ksle_nil : KsLe [] [] := KsLe.rfl' []
theorem ksle_cons {k k' : Kd} {ks ks' : List Kd} (h : KLe k k') (t : KsLe ks ks') : KsLe (k :: ks) (k' :: ks') := ⟨by rw [List.length_cons, List.length_cons, t.1], fun i a b h1 h2 => by
  cases i with
  | zero =>
    cases h1; cases h2
    exact h
  | succ i =>
    rw [List.getElem?_cons_succ] at h1 h2
    exact t.2 i a b h1 h2⟩
theorem ksle_set {ks ks' : List Kd} {i : Nat} {k k' : Kd} (h : KsLe ks ks') (hk : KLe k k') : KsLe (ks.set i k) (ks'.set i k') := ⟨by rw [List.length_set, List.length_set, h.1], fun j a b h1 h2 => by
  rcases getK h1 with ⟨e, _, z1⟩ | ⟨n, z1⟩
  · rcases getK h2 with ⟨_, _, z2⟩ | ⟨n2, _⟩
    · subst z1; subst z2
      exact hk
    · exact absurd e n2
  · rcases getK h2 with ⟨e, _, _⟩ | ⟨_, z2⟩
    · exact absurd e n
    · exact h.2 j a b z1 z2⟩
theorem cont_nxw {F : Fm} {ks ks' : List Kd} {I : List Kd → Prop} (w : KsLe ks ks') (h : I ks') : Cont F ks (Nx F I) := fun M σ H o => ⟨ks', M, h, o.weak w⟩
/-! a statement and the rest -/
section
variable {F : Fm} {ks : List Kd} {E : Ends} {u : TS}
theorem rs_asgR {te : TE} {i : Nat} {R : D → Prop} (h : EvR F ks te R) (c : ∀ d, R d → Run F (ks.set i (.dat d)) u E) : Run F ks (tSeq (tAsg te (gName i)) u) E := run_asgR (E := { E with nx := u E }) h c
theorem rs_asg {te : TE} {i : Nat} {d : D} (h : Ev F ks te d) (c : Run F (ks.set i (.dat d)) u E) : Run F ks (tSeq (tAsg te (gName i)) u) E := run_asg (E := { E with nx := u E }) h c
theorem rs_asgLR {te : TE} {i : Nat} {R : List D → Prop} (h : EvLR F ks te R) (c : Run F (ks.set i (.own R)) u E) : Run F ks (tSeq (tAsg te (gName i)) u) E := run_asgLR (E := { E with nx := u E }) h c
theorem rs_asgL {te : TE} {i : Nat} {ds : List D} (h : EvL F ks te ds) (c : Run F (ks.set i (.own fun x => x = ds)) u E) : Run F ks (tSeq (tAsg te (gName i)) u) E := run_asgL (E := { E with nx := u E }) h c
theorem rs_asgG {te : TE} {g : TG} {d : D} {ks' : List Kd} (h : Ev F ks te d) (hg : GB F g ks d ks') (c : Run F ks' u E) : Run F ks (tSeq (tAsg te g) u) E := run_asgG (E := { E with nx := u E }) h hg c
theorem rs_drop {te : TE} {R : D → Prop} (h : EvR F ks te R) (c : Run F ks u E) : Run F ks (tSeq (tDrop te) u) E := run_drop (E := { E with nx := u E }) h c
/-- if t: .., no else, the branch falls through or not -/
theorem rs_ifR {tt : TT} {t : TS} {R : Bool → Prop} (h : EvTR F ks tt R) (h1 : R true → Run F ks t { E with nx := u E }) (h2 : R false → Run F ks u E) : Run F ks (tSeq (tIfS tt t tNext) u) E := run_ifR (E := { E with nx := u E }) h h1 h2
theorem rs_if {tt : TT} {t : TS} {b : Bool} (h : EvT F ks tt b) (h1 : b = true → Run F ks t { E with nx := u E }) (h2 : b = false → Run F ks u E) : Run F ks (tSeq (tIfS tt t tNext) u) E := run_if (E := { E with nx := u E }) h h1 h2
theorem rs_ifE {tt : TT} {t t2 : TS} {b : Bool} (h : EvT F ks tt b) (h1 : b = true → Run F ks t { E with nx := u E }) (h2 : b = false → Run F ks t2 { E with nx := u E }) : Run F ks (tSeq (tIfS tt t t2) u) E := run_if (E := { E with nx := u E }) h h1 h2
theorem rs_app {te : TE} {i : Nat} {ds : List D} {d : D} (hk : ks[i]? = some (.own fun x => x = ds)) (h : Ev F ks te d) (hz : ds.length < sizeLine) (c : Run F (ks.set i (.own fun x => x = ds ++ [d])) u E) : Run F ks (tSeq (tDrop (tBM F.K "list" rAppend (tVar i) (tCons te tNil))) u) E := run_app (E := { E with nx := u E }) hk h hz c
theorem rs_set {te ti : TE} {i m : Nat} {ds : List D} {d : D} {j : Int} (hk : ks[i]? = some (.own fun x => x = ds)) (h : Ev F ks te d) (hi : Ev F ks ti (.int j)) (hz : ixN ds.length j = some m) (c : Run F (ks.set i (.own fun x => x = ds.set m d)) u E) : Run F ks (tSeq (tAsg te (gSub (tVar i) ti rSetL)) u) E := run_set (E := { E with nx := u E }) hk h hi hz c
theorem rs_pop {ti : TE} {i x m : Nat} {ds : List D} {d : D} {j : Int} (hk : ks[i]? = some (.own fun x => x = ds)) (hi : Ev F ks ti (.int j)) (hj : j = (m : Int)) (hm : m < 2 ^ 62) (hd : ds[m]? = some d) (c : Run F ((ks.set i (.own fun x => x = ds.eraseIdx m)).set x (.dat d)) u E) :
    Run F ks (tSeq (tAsg (tBM F.K "list" rPopAt (tVar i) (tCons ti tNil)) (gName x)) u) E := run_pop (E := { E with nx := u E }) hk hi hj hm hd c
theorem rs_freeze (i : Nat) {ds : List D} {t : TS} (h : ks[i]? = some (.own fun x => x = ds)) (c : Run F (ks.set i (.dat (.lst ds))) t E) : Run F ks t E := cont_freeze i h c
theorem rs_weak {ks' : List Kd} {t : TS} (h : Run F ks' t E) (w : KsLe ks ks') : Run F ks t E := Cont.weak h w
theorem rs_forR {wi : TI} {g : TG} {tb : TS} {RI : List D → Prop} (hi : EvIR F ks wi RI) (I : List D → Nat → List Kd → Prop) (h0 : ∀ items, RI items → I items 0 ks)
    (hs : ∀ items i d ks', RI items → items[i]? = some d → I items i ks' → ∀ B G, Sub F B G → ∃ ks'', GB { F with B := B, G := G } g ks' d ks'' ∧
      Run { F with B := B, G := G } ks'' tb { E with nx := Nx { F with B := B, G := G } (I items (i + 1)), ct := Nx { F with B := B, G := G } (I items (i + 1)), bk := u E })
    (hd : ∀ items ks', RI items → I items items.length ks' → Run F ks' u E) : Run F ks (tSeq (tFor wi g tb) u) E := run_forR (E := { E with nx := u E }) hi I h0 hs hd
theorem rs_for {wi : TI} {g : TG} {tb : TS} {items : List D} (hi : EvI F ks wi items) (K : Nat → List Kd) (h0 : KsLe ks (K 0))
    (hs : ∀ i d, items[i]? = some d → ∀ B G, Sub F B G → ∃ ks'', GB { F with B := B, G := G } g (K i) d ks'' ∧
      Run { F with B := B, G := G } ks'' tb { E with nx := Nx { F with B := B, G := G } (fun x => x = K (i + 1)), ct := Nx { F with B := B, G := G } (fun x => x = K (i + 1)), bk := u E })
    (hd : Run F (K items.length) u E) : Run F ks (tSeq (tFor wi g tb) u) E := run_for (E := { E with nx := u E }) hi K h0 hs hd
theorem rs_while {c : TT} {tb : TS} (I : Nat → List Kd → Prop) (n0 : Nat) (h0 : I n0 ks) (b : List Kd → Bool) (ht : ∀ n ks', I n ks' → EvT F ks' c (b ks'))
    (hs : ∀ n ks', I n ks' → b ks' = true → Run F ks' tb { E with nx := Nx F (fun k => ∃ m, m < n ∧ I m k), ct := Nx F (fun k => ∃ m, m < n ∧ I m k), bk := u E })
    (hd : ∀ n ks', I n ks' → b ks' = false → Run F ks' u E) : Run F ks (tSeq (tWhile c tb) u) E := run_while (E := { E with nx := u E }) I n0 h0 b ht hs hd
/-- the loop's context again at the turn's end -/
theorem cont_nx1 {ks' : List Kd} (w : KsLe ks ks') : Cont F ks (Nx F (fun x => x = ks')) := cont_nxw w rfl
end
section
variable {K : PySem.W.Frag} {H : Hp} {M : List Addr} {N : List Str}
/-- into the body, the promise's data at hand -/
theorem inP {vs : List V} {ds : List D} {t : TS} {E : Ends} (h : Ats K (hid M H) vs ds) (lv : ∀ a ∈ M, ∃ o, H a = some o) (ks : List Kd) (r : Run ⟨K, H, hid M H, M⟩ ks t E) (e : ks = kin ds (N.length - ds.length) := by rfl) (hl : Nat.ble ds.length N.length = true := by rfl) : t E (L2.start N vs) H :=
  enterP h lv ks e (Nat.le_of_ble_eq_true hl) r
theorem inS {us : List V} {ds : List D} {a : Addr} {vs0 : List V} {ds0 : List D} {φ : List D → Prop} {t : TS} {E : Ends} (ha : a ∈ M) (hl0 : H a = some (.lst vs0)) (h0 : Ats K (hid M H) vs0 ds0) (hφ : φ ds0) (h : Ats K (hid M H) us ds) (lv : ∀ a ∈ M, ∃ o, H a = some o)
    (ks : List Kd) (r : Run ⟨K, hid [a] H, hid M H, M⟩ ks t E) (e : ks = .bor φ :: kin ds (N.length - 1 - ds.length) := by rfl) (hl : Nat.ble (ds.length + 1) N.length = true := by rfl) : t E (L2.start N (.ref a :: us)) H := enterS ha hl0 h0 hφ h lv ks e (Nat.le_of_ble_eq_true hl) r
end
end Dl
set_option Elab.async false
set_option linter.all false
set_option maxRecDepth 100000
set_option maxHeartbeats 4000000
/-! SortR: sorted of a list of tuples of numbers, any length. -/
namespace SortR
open PySem PySem.Spec PyProof.Rows L2
def leR : List Int → List Int → Bool := fun a b => decide (a ≤ b)
def encT (r : List Int) : PyData := .tuple (r.map .int)
theorem dataLe_tup : PySem.W.dataLe false encT = leR := by
  funext p q
  show (!PySem.W.dataLt (.tuple (q.map .int)) (.tuple (p.map .int))) = _
  rw [PySem.W.dataLt_tuple]
  show (!PySem.W.rowLt (q.map .int) (p.map .int)) = _
  rw [PySem.W.dataLt_ints]
  unfold leR
  by_cases h : q < p
  · have h' : ¬ p ≤ q := fun r => List.not_lt.mpr r h
    simp [h, h']
  · have h' : p ≤ q := List.not_lt.mp h
    simp [h, h']
def rSortR (K : PySem.W.Frag) : List V → Hp → VK → Prop := fun vs H Q => ∃ (a : Addr) (us : List V) (rows : List (List Int)) (R : V → List Int → Prop), vs = [.ref a] ∧ SqL K H a us ∧
  Paired (fun u r => (∃ t, u = V.ref t ∧ SqT K H t (r.map V.int)) ∧ R u r) us rows ∧ (rows.length ≤ 1 ∨ ∀ r ∈ rows, r ≠ []) ∧
  ∀ p us', H p = none → Paired R us' (rows.mergeSort leR) → Q (.ref p) (upd H p (.lst us'))
theorem dp_ints {K : PySem.W.Frag} {H : Hp} : ∀ ns : List Int, DpAll K H (ns.map V.int) (ns.map .int)
  | [] => .nil
  | n :: ns => .cons (.int n) (dp_ints ns)
theorem each_back {R : V → List Int → Prop} : ∀ {out : List Value} {bs : List (List Int)}, PySem.W.EachIs (fun v b => ∃ u, RelV u v ∧ R u b) out bs → ∃ us', Vals us' out ∧ Paired R us' bs
  | _, _, .nil => ⟨[], .nil, .nil⟩
  | _, _, .cons ⟨u, h1, h2⟩ t => by
    obtain ⟨us, h3, h4⟩ := each_back t
    exact ⟨u :: us, .cons h1 h3, .cons h2 h4⟩
theorem each_fwd {R : V → List Int → Prop} : ∀ {us : List V} {its : List Value} {bs : List (List Int)}, Vals us its → Paired R us bs → PySem.W.EachIs (fun v b => ∃ u, RelV u v ∧ R u b) its bs
  | _, _, _, .nil, .nil => .nil
  | _, _, _, .cons h1 t, .cons h2 t2 => .cons ⟨_, h1, h2⟩ (each_fwd t t2)
section
variable {X : Cx}
theorem each_reads {pins : List (Addr × Obj)} {σ : L2.St} {H : Hp} {s : Shared} (I : Inv X pins σ H s) : ∀ {us : List V} {its : List Value} {bs : List (List Int)}, Vals us its → Paired (fun u r => ∃ t, u = V.ref t ∧ SqT X.K H t (r.map V.int)) us bs → PySem.W.EachIs (fun v b => ∃ as, Reads s.heap v (encT b) as) its bs
  | _, _, _, .nil, .nil => .nil
  | _, _, _, .cons h1 t, .cons ⟨a, e, h2⟩ t2 => by
    subst e
    exact .cons (Dp.reads I (encT _) (.ref a) _ (.tup h2 (dp_ints _)) h1) (each_reads I t t2)
theorem paired_len {α β : Type} {R : α → β → Prop} : ∀ {as : List α} {bs : List β}, Paired R as bs → as.length = bs.length
  | _, _, .nil => rfl
  | _, _, .cons _ t => congrArg (· + 1) (paired_len t)
theorem paired_map {α β : Type} {R S : α → β → Prop} (f : ∀ a b, R a b → S a b) : ∀ {as : List α} {bs : List β}, Paired R as bs → Paired S as bs
  | _, _, .nil => .nil
  | _, _, .cons h t => .cons (f _ _ h) (paired_map f t)
theorem sort_one : ∀ {rows : List (List Int)}, rows.length ≤ 1 → rows.mergeSort leR = rows
  | [], _ => by simp
  | [v], _ => by simp
  | _ :: _ :: _, h => absurd h (by simp)
theorem perm_one {α : Type} : ∀ {its out : List α}, its.length ≤ 1 → out.Perm its → out = its
  | [], _, _, p => List.Perm.eq_nil p
  | [v], _, _, p => List.perm_singleton.mp p
  | _ :: _ :: _, _, h, _ => absurd h (by simp)
theorem cr_sortedR (hr : X.A.units + 65 < cLine) : CallR X (.builtin "sorted") (rSortR X.K) := by
  intro pins s σ H vs us0 Q I r h
  obtain ⟨a, us, rows, R, rfl, hs, hp, hc, q⟩ := h
  obtain ⟨its, rv, hl, hz⟩ := I.list hs
  rw [Vals.ref1 r]
  have l1 := rv.length
  have l2 := paired_len hp
  have fin : ∀ out : List Value, out.length ≤ sizeLine → PySem.W.EachIs (fun v b => ∃ u, RelV u v ∧ R u b) out (rows.mergeSort leR) → EP X pins σ Q (.ref (s.heap.objs.size + 1)) { s with heap := sortedAll s.heap its out.toArray } := fun out hlen e => by
    obtain ⟨us', h1, h2⟩ := each_back e
    obtain ⟨ep, he'⟩ := PyProof.Rows.sortedAll_at s.heap its out.toArray
    exact ⟨.ref _, upd H (s.heap.objs.size + 1) (.lst us'), I.laid (t' := s.toks) (fun _ _ => PyProof.Rows.sortedAll_old) (Nat.le_succ _) ⟨by rw [h1.length]; exact hlen, out, ep, h1, he'⟩, rfl, q _ _ (I.hok.fresh (Nat.le_succ _)) h2⟩
  by_cases hlen : rows.length ≤ 1
  · refine SrtO.sorted_ord SrtO.swo_int hl.isList (by rw [← rv.length]; exact hz) (fun h2 h₁ a' _ _ => absurd h2 (by omega)) fun out h1 h2 => fin out ?_ ?_
    · rw [h2.perm.length_eq, ← l1]
      exact hz
    · have e : out = its := by
        have pe := h2.perm
        exact perm_one (by omega) pe
      have e2 : rows.mergeSort leR = rows := by
        exact sort_one hlen
      rw [e, e2]
      exact each_fwd rv (paired_map (fun _ _ z => z.2) hp)
  · have hne : ∀ r ∈ rows, r ≠ [] := by
      rcases hc with z | z
      · exact absurd z hlen
      · exact z
    have er := each_reads I rv (paired_map (fun _ _ z => z.1) hp)
    have e := each_fwd rv (paired_map (fun _ _ z => z.2) hp)
    refine PySem.W.sorted_data (enc := encT) (bs := rows) (R := fun v b => ∃ u, RelV u v ∧ R u b) (vs := its) hl.isList e er ?_ ?_ (by rw [← l2]; exact hz) ?_ fun out h1 h2 => fin out (by rw [h1, ← l2]; exact hz) (by rw [dataLe_tup] at h2; exact h2)
    · intro d hd d' hd'
      obtain ⟨b, _, rfl⟩ := List.mem_map.mp hd
      obtain ⟨b', _, rfl⟩ := List.mem_map.mp hd'
      show PySem.W.alike (.tuple _) (.tuple _) = true
      simp only [PySem.W.alike]
      exact PySem.W.alike_ints b b'
    · refine .inl fun d hd => ?_
      obtain ⟨b, hb, rfl⟩ := List.mem_map.mp hd
      cases b with
      | nil => exact absurd rfl (hne [] hb)
      | cons x xs => exact ⟨_, _, rfl⟩
    · intro b hb
      have : (encT b).depth = 1 := by
        unfold encT
        simp only [PyData.depth]
        rw [PySem.W.depth_ints]
      rw [this]
      exact Nat.lt_of_le_of_lt (Nat.add_le_add_left (show 2 + 1 ≤ 65 by decide) X.A.units) hr
end
end SortR
namespace Dl
open PySem PySem.Spec PyProof.Rows L2
theorem cr_sortedK {X : Cx} (K : PySem.W.Frag) (hr : X.A.units + 65 < cLine) (hK : X.K = K := by rfl) : CallR X (.builtin "sorted") (SortR.rSortR K) := by subst hK; exact SortR.cr_sortedR hr
section
variable {F : Fm} {ks : List Kd}
theorem pair_rows {K : PySem.W.Frag} {H H2 : Hp} (sm : Same H H2) : ∀ {vs : List V} {rows : List (List Int)}, Ats K H vs (rws rows) → Paired (fun u r => (∃ t, u = V.ref t ∧ SqT K H2 t (r.map V.int)) ∧ At K H u (rw r)) vs rows
  | _, [], .nil => .nil
  | _, r :: rows, .cons h t => by
    have h' := h
    cases h with
    | tup hs hd =>
      have e := hd.ints
      subst e
      exact .cons ⟨⟨_, rfl, same_t sm hs⟩, h'⟩ (pair_rows sm t)
theorem pair_ats {K : PySem.W.Frag} {H : Hp} : ∀ {vs : List V} {rows : List (List Int)}, Paired (fun u r => At K H u (rw r)) vs rows → Ats K H vs (rws rows)
  | _, _, .nil => .nil
  | _, _, .cons h t => .cons h (pair_ats t)
theorem cavl_sorted {rows : List (List Int)} (hc : rows.length ≤ 1 ∨ ∀ r ∈ rows, r ≠ []) : CaVL F ks (SortR.rSortR F.K) [.lst (rws rows)] (fun ds => ds = rws (rows.mergeSort SortR.leR)) := fun M σ H o vs a Q q => by
  cases a with
  | cons a1 a2 =>
    cases a2
    cases a1 with
    | lst hl hs =>
      refine ⟨_, _, rows, fun u r => At F.K (hid M H) u (rw r), rfl, .inl (.inl (hid_same _ _ hl)), pair_rows hid_same hs, hc, fun p us' n hp => ?_⟩
      obtain ⟨o2, s2, l2, a2⟩ := lst_new o (pair_ats hp) n
      exact q _ _ _ _ n o2 s2 l2 a2 rfl
end
end Dl
set_option Elab.async false
set_option linter.all false
set_option maxHeartbeats 2000000
/-! LinDef: what the defs of linear.py compute, as plain functions of rows of numbers. -/
namespace Dl
open PySem L2
def PR (p : Int) : Prop := p = 2 ∨ p = 3 ∨ p = 5 ∨ p = 7
theorem PR.pos {p : Int} (h : PR p) : 0 < p := by rcases h with h | h | h | h <;> omega
theorem PR.two {p : Int} (h : PR p) : 2 ≤ p := by rcases h with h | h | h | h <;> omega
theorem PR.le {p : Int} (h : PR p) : p ≤ 7 := by rcases h with h | h | h | h <;> omega
/-- rows of n numbers modulo p -/
def Vc (p : Int) (n : Nat) (v : List Int) : Prop := v.length = n ∧ ∀ x ∈ v, 0 ≤ x ∧ x < p
def mScl (p a : Int) (v : List Int) : List Int := v.map fun x => x * a % p
def mAdd (p : Int) (v w : List Int) : List Int := List.zipWith (fun x y => (x + y) % p) v w
def mClr (p : Int) (j : Nat) (head row : List Int) : List Int := if row.getD j 0 = 0 then row else List.zipWith (fun x y => (x - row.getD j 0 * y) % p) row head
def mInv (p a : Int) : Int := (((List.range (p - 1).toNat).map fun (k : Nat) => 1 + (k : Int)).find? fun k => a * k % p == 1).getD 0
def zer (n : Nat) : List Int := List.replicate n 0
theorem emod_in {p : Int} (hp : 0 < p) (x : Int) : 0 ≤ x % p ∧ x % p < p := ⟨Int.emod_nonneg x (by omega), Int.emod_lt_of_pos x hp⟩
theorem Vc.scl {p a : Int} {n : Nat} {v : List Int} (hp : 0 < p) (h : v.length = n) : Vc p n (mScl p a v) := ⟨by unfold mScl; rw [List.length_map]; exact h, fun x hx => by
  unfold mScl at hx
  obtain ⟨y, _, e⟩ := List.mem_map.mp hx
  rw [← e]
  exact emod_in hp _⟩
theorem mem_zipWith {f : Int → Int → Int} : ∀ {v w : List Int} {x : Int}, x ∈ List.zipWith f v w → ∃ a b, x = f a b
  | [], _, _, h => by simp at h
  | _ :: _, [], _, h => by simp at h
  | a :: v, b :: w, x, h => by
    rw [List.zipWith_cons_cons, List.mem_cons] at h
    rcases h with h | h
    · exact ⟨a, b, h⟩
    · exact mem_zipWith h
theorem Vc.add {p : Int} {n : Nat} {v w : List Int} (hp : 0 < p) (hv : v.length = n) (hw : w.length = n) : Vc p n (mAdd p v w) := ⟨by unfold mAdd; rw [List.length_zipWith, hv, hw, Nat.min_self], fun x hx => by
  obtain ⟨a, b, e⟩ := mem_zipWith hx
  rw [e]
  exact emod_in hp _⟩
theorem Vc.clr {p : Int} {n j : Nat} {head row : List Int} (hp : 0 < p) (hh : head.length = n) (hr : Vc p n row) : Vc p n (mClr p j head row) := by
  unfold mClr
  split
  · exact hr
  · refine ⟨by rw [List.length_zipWith, hh, hr.1, Nat.min_self], fun x hx => ?_⟩
    obtain ⟨a, b, e⟩ := mem_zipWith hx
    rw [e]
    exact emod_in hp _
theorem Vc.zer {p : Int} {n : Nat} (hp : 0 < p) : Vc p n (zer n) := ⟨List.length_replicate, fun x hx => by
  rw [(List.mem_replicate.mp hx).2]
  omega⟩
theorem getD_mem {v : List Int} {j : Nat} (h : j < v.length) : v.getD j 0 ∈ v := by
  rw [List.getD_eq_getElem?_getD, List.getElem?_eq_getElem h]
  exact List.getElem_mem h
theorem Vc.at {p : Int} {n : Nat} {v : List Int} (h : Vc p n v) {j : Nat} (hj : j < n) : 0 ≤ v.getD j 0 ∧ v.getD j 0 < p := h.2 _ (getD_mem (by rw [h.1]; exact hj))
/-- the inverse modulo a prime is found -/
theorem mInv_ok {p a : Int} (hp : PR p) (ha : a % p ≠ 0) : 1 ≤ mInv p a ∧ mInv p a < p ∧ a * mInv p a % p = 1 := by
  have key : ∃ k : Nat, k < (p - 1).toNat ∧ a * (1 + (k : Int)) % p = 1 := by
    have h0 : 0 ≤ a % p := Int.emod_nonneg a (by have := hp.pos; omega)
    have h1 : a % p < p := Int.emod_lt_of_pos a hp.pos
    rcases hp with e | e | e | e <;> subst e
    · refine ⟨0, by decide, ?_⟩
      simp
      omega
    · have : a % 3 = 1 ∨ a % 3 = 2 := by omega
      rcases this with h | h
      · exact ⟨0, by decide, by simp; omega⟩
      · refine ⟨1, by decide, ?_⟩
        show a * 2 % 3 = 1
        omega
    · have : a % 5 = 1 ∨ a % 5 = 2 ∨ a % 5 = 3 ∨ a % 5 = 4 := by omega
      rcases this with h | h | h | h
      · exact ⟨0, by decide, by simp; omega⟩
      · exact ⟨2, by decide, by show a * 3 % 5 = 1; omega⟩
      · exact ⟨1, by decide, by show a * 2 % 5 = 1; omega⟩
      · exact ⟨3, by decide, by show a * 4 % 5 = 1; omega⟩
    · have : a % 7 = 1 ∨ a % 7 = 2 ∨ a % 7 = 3 ∨ a % 7 = 4 ∨ a % 7 = 5 ∨ a % 7 = 6 := by omega
      rcases this with h | h | h | h | h | h
      · exact ⟨0, by decide, by simp; omega⟩
      · exact ⟨3, by decide, by show a * 4 % 7 = 1; omega⟩
      · exact ⟨4, by decide, by show a * 5 % 7 = 1; omega⟩
      · exact ⟨1, by decide, by show a * 2 % 7 = 1; omega⟩
      · exact ⟨2, by decide, by show a * 3 % 7 = 1; omega⟩
      · exact ⟨5, by decide, by show a * 6 % 7 = 1; omega⟩
  obtain ⟨k, hk, hk1⟩ := key
  unfold mInv
  cases e : ((List.range (p - 1).toNat).map fun (k : Nat) => 1 + (k : Int)).find? fun k => a * k % p == 1 with
  | none =>
    have := List.find?_eq_none.mp e (1 + (k : Int)) (List.mem_map.mpr ⟨k, List.mem_range.mpr hk, rfl⟩)
    simp [hk1] at this
  | some j =>
    have h1 := List.find?_some e
    have h2 := List.mem_of_find?_eq_some e
    obtain ⟨i, hi, e2⟩ := List.mem_map.mp h2
    rw [List.mem_range] at hi
    show 1 ≤ j ∧ j < p ∧ a * j % p = 1
    refine ⟨by omega, by omega, ?_⟩
    simpa using h1
/-- where the first item at j that is not 0 stands -/
def hds (left : List (List Int)) (j : Nat) : List Nat := (List.range left.length).filter fun k => !decide ((left.getD k []).getD j 0 = 0)
structure RS where
  left : List (List Int)
  found : List (List Int)
  piv : List Int
def rStep (p : Int) (s : RS) (j : Nat) : RS := match hds s.left j with
  | [] => s
  | h :: _ =>
    let head := mScl p (mInv p ((s.left.getD h []).getD j 0)) (s.left.getD h [])
    ⟨(s.left.eraseIdx h).map (mClr p j head), s.found.map (mClr p j head) ++ [head], s.piv ++ [(j : Int)]⟩
def rRun (p : Int) (rows : List (List Int)) (n : Nat) : RS := (List.range n).foldl (rStep p) ⟨rows, [], []⟩
theorem rRun_succ (p : Int) (rows : List (List Int)) (n : Nat) : rRun p rows (n + 1) = rStep p (rRun p rows n) n := by
  unfold rRun
  rw [List.range_succ, List.foldl_append]
  rfl
def mRed (p : Int) (n : Nat) (rows : List (List Int)) : List (List Int) := (rRun p rows n).found
def mPiv (p : Int) (n : Nat) (rows : List (List Int)) : List Int := (rRun p rows n).piv
def Vcs (p : Int) (n : Nat) (l : List (List Int)) : Prop := ∀ v ∈ l, Vc p n v
theorem hds_mem {left : List (List Int)} {j h : Nat} (e : h ∈ hds left j) : h < left.length ∧ (left.getD h []).getD j 0 ≠ 0 := by
  unfold hds at e
  obtain ⟨h1, h2⟩ := List.mem_filter.mp e
  exact ⟨List.mem_range.mp h1, by simpa using h2⟩
theorem getD_memL {l : List (List Int)} {j : Nat} (h : j < l.length) : l.getD j [] ∈ l := by
  rw [List.getD_eq_getElem?_getD, List.getElem?_eq_getElem h]
  exact List.getElem_mem h
theorem rStep_nil {p : Int} {s : RS} {j : Nat} (e : hds s.left j = []) : rStep p s j = s := by unfold rStep; rw [e]
theorem rStep_cons {p : Int} {s : RS} {j h : Nat} {t : List Nat} (e : hds s.left j = h :: t) : rStep p s j = ⟨(s.left.eraseIdx h).map (mClr p j (mScl p (mInv p ((s.left.getD h []).getD j 0)) (s.left.getD h []))), s.found.map (mClr p j (mScl p (mInv p ((s.left.getD h []).getD j 0)) (s.left.getD h []))) ++ [mScl p (mInv p ((s.left.getD h []).getD j 0)) (s.left.getD h [])], s.piv ++ [(j : Int)]⟩ := by
  unfold rStep
  rw [e]
structure RSok (p : Int) (n m : Nat) (s : RS) : Prop where
  l : Vcs p n s.left
  f : Vcs p n s.found
  len : s.left.length + s.found.length = m
  pl : s.piv.length = s.found.length
theorem rStep_ok {p : Int} {n m j : Nat} {s : RS} (hp : 0 < p) (h : RSok p n m s) : RSok p n m (rStep p s j) := by
  cases e : hds s.left j with
  | nil => rw [rStep_nil e]; exact h
  | cons k t =>
    rw [rStep_cons e]
    obtain ⟨h1, h2⟩ := hds_mem (by rw [e]; exact List.mem_cons_self : k ∈ hds s.left j)
    have hv := h.l _ (getD_memL h1)
    have hh : Vc p n (mScl p (mInv p ((s.left.getD k []).getD j 0)) (s.left.getD k [])) := Vc.scl hp hv.1
    refine ⟨fun v hv => ?_, fun v hv => ?_, ?_, ?_⟩
    · obtain ⟨u, hu, e⟩ := List.mem_map.mp hv
      rw [← e]
      exact Vc.clr hp hh.1 (h.l u (List.mem_of_mem_eraseIdx hu))
    · rcases List.mem_append.mp hv with hv | hv
      · obtain ⟨u, hu, e⟩ := List.mem_map.mp hv
        rw [← e]
        exact Vc.clr hp hh.1 (h.f u hu)
      · rw [List.mem_singleton.mp hv]
        exact hh
    · rw [List.length_map, List.length_eraseIdx, if_pos h1, List.length_append, List.length_map, List.length_singleton]
      have := h.len
      omega
    · rw [List.length_append, List.length_append, List.length_map, h.pl, List.length_singleton, List.length_singleton]
theorem rRun_ok {p : Int} {n : Nat} {rows : List (List Int)} (hp : 0 < p) (h : Vcs p n rows) : ∀ k, RSok p n rows.length (rRun p rows k)
  | 0 => ⟨h, fun v hv => absurd hv (by unfold rRun; simp), by unfold rRun; simp, by unfold rRun; simp⟩
  | k + 1 => by
    rw [rRun_succ]
    exact rStep_ok hp (rRun_ok hp h k)
/-- the place of the first item that is not 0 -/
def nz (row : List Int) : List Nat := (List.range row.length).filter fun k => !decide (row.getD k 0 = 0)
def mPv (row : List Int) : Nat := (nz row).headD 0
def mRest (p : Int) (space : List (List Int)) (v : List Int) : List Int := space.foldl (fun f r => mClr p (mPv r) r f) v
theorem nz_mem {row : List Int} {k : Nat} (h : k ∈ nz row) : k < row.length ∧ row.getD k 0 ≠ 0 := by
  unfold nz at h
  obtain ⟨h1, h2⟩ := List.mem_filter.mp h
  exact ⟨List.mem_range.mp h1, by simpa using h2⟩
theorem mPv_mem {row : List Int} (h : nz row ≠ []) : mPv row ∈ nz row := by
  unfold mPv
  cases e : nz row with
  | nil => exact absurd e h
  | cons a t => exact List.mem_cons_self
/-- what the law's own draws leave -/
def stOk (ds : List D) : Prop := ∃ s t : Int, ds = [.int s, .int t] ∧ 0 ≤ s ∧ 0 ≤ t
theorem map_range_zip (f : Int → Int → Int) : ∀ {v w : List Int}, v.length = w.length → (List.range v.length).map (fun k => f (v.getD k 0) (w.getD k 0)) = List.zipWith f v w
  | [], [], _ => rfl
  | [], _ :: _, h => by simp at h
  | _ :: _, [], h => by simp at h
  | a :: v, b :: w, h => by
    rw [List.length_cons, List.range_succ_eq_map, List.map_cons, List.map_map, List.zipWith_cons_cons, ← map_range_zip f (v := v) (w := w) (by simpa using h)]
    rfl
theorem zer_map (n : Nat) : (List.range n).map (fun _ => (0 : Int)) = zer n := by
  unfold zer
  induction n with
  | zero => rfl
  | succ n ih => rw [List.range_succ, List.map_append, ih, List.replicate_succ']; rfl
theorem rw_zer (n : Nat) : D.tup (List.replicate n (.int 0)) = rw (zer n) := by
  show _ = D.tup _
  unfold zer
  rw [List.map_replicate]
theorem rw_inj {v w : List Int} (h : rw v = rw w) : v = w := by
  have h2 : v.map D.int = w.map D.int := D.tup.inj h
  induction v generalizing w with
  | nil =>
    cases w with
    | nil => rfl
    | cons b w => cases h2
  | cons a v ih =>
    cases w with
    | nil => cases h2
    | cons b w =>
      rw [List.map_cons, List.map_cons] at h2
      injection h2 with e1 e2
      rw [D.int.inj e1, ih (by show D.tup _ = D.tup _; rw [e2]) e2]
theorem rw_pln (v : List Int) : Pln 1 (rw v) := Pln.tup (Pln.map fun x _ => Pln.int x 0)
theorem rw_cln (v : List Int) : cln (rw v) = true := cln_tup (cln_map fun x _ => cln_int x)
theorem rw_ok (v : List Int) : okD (rw v) = true := (rw_pln v).ok
theorem eqv_rw (v w : List Int) : PyData.eqv (py (rw v)) (py (rw w)) = decide (v = w) := eqv_inj (f := rw) (fun _ _ => rw_inj) (rw_cln v) (rw_cln w) (rw_pln v).1
theorem rws_okL (l : List (List Int)) : okD (.lst (rws l)) = true := (Pln.lst (n := 1) (Pln.map fun x _ => rw_pln x)).ok
theorem rws_okT (l : List (List Int)) : okD (.tup (rws l)) = true := (Pln.tup (n := 1) (Pln.map fun x _ => rw_pln x)).ok
theorem any_rws (v : List Int) (l : List (List Int)) : (rws l).any (fun z => PyData.eqv (py z) (py (rw v))) = decide (v ∈ l) := by
  rw [any_code (f := rw) (fun _ _ => rw_inj) rw_cln (fun v => (rw_pln v).1) v l]
  congr
/-- one more row of the law's own span -/
def spStep (p : Int) (found : List (List Int)) (row : List Int) : List (List Int) := if row ∈ found then found else found.flatMap fun w => (List.range p.toNat).map fun (a : Nat) => mAdd p w (mScl p (a : Int) row)
def spanL (p : Int) (n : Nat) (rows : List (List Int)) : List (List Int) := rows.foldl (spStep p) [zer n]
def mSpan (p : Int) (n : Nat) (rows : List (List Int)) : List (List Int) := (spanL p n rows).mergeSort SortR.leR
theorem spanL_snoc (p : Int) (n : Nat) (rows : List (List Int)) (r : List Int) : spanL p n (rows ++ [r]) = spStep p (spanL p n rows) r := by
  unfold spanL
  rw [List.foldl_append]
  rfl
theorem flatMap_len {α β : Type} (f : α → List β) (m : Nat) (hf : ∀ a, (f a).length = m) : ∀ l : List α, (l.flatMap f).length = l.length * m
  | [] => by simp
  | a :: l => by
    rw [List.flatMap_cons, List.length_append, hf, flatMap_len f m hf l, List.length_cons, Nat.succ_mul]
    omega
theorem spStep_len (p : Int) (found : List (List Int)) (r : List Int) : (spStep p found r).length ≤ found.length * max 1 p.toNat := by
  unfold spStep
  split
  · exact Nat.le_mul_of_pos_right _ (by omega)
  · rw [flatMap_len _ p.toNat fun w => by rw [List.length_map, List.length_range]]
    exact Nat.mul_le_mul_left _ (by omega)
theorem spanL_len {p : Int} (hp : 0 < p) (n : Nat) : ∀ (k : Nat) (rows : List (List Int)), (spanL p n (rows.take k)).length ≤ p.toNat ^ k
  | 0, rows => by rw [List.take_zero]; simp [spanL]
  | k + 1, rows => by
    have ih := spanL_len hp n k rows
    by_cases h : k < rows.length
    · rw [List.take_add_one, List.getElem?_eq_getElem h, Option.toList_some, spanL_snoc]
      refine Nat.le_trans (spStep_len p _ _) ?_
      rw [Nat.pow_succ, show max 1 p.toNat = p.toNat by omega]
      exact Nat.mul_le_mul_right _ ih
    · rw [List.take_of_length_le (by omega)]
      rw [List.take_of_length_le (by omega)] at ih
      exact Nat.le_trans ih (Nat.pow_le_pow_right (by omega) (by omega))
theorem spStep_vc {p : Int} {n : Nat} {found : List (List Int)} {r : List Int} (hp : 0 < p) (h : Vcs p n found) (hr : r.length = n) : Vcs p n (spStep p found r) := by
  unfold spStep
  split
  · exact h
  · intro v hv
    obtain ⟨w, hw, h2⟩ := List.mem_flatMap.mp hv
    obtain ⟨a, _, e⟩ := List.mem_map.mp h2
    rw [← e]
    exact Vc.add hp (h w hw).1 (by unfold mScl; rw [List.length_map]; exact hr)
theorem foldl_vc {p : Int} {n : Nat} (hp : 0 < p) : ∀ {rows found : List (List Int)}, Vcs p n found → (∀ r ∈ rows, r.length = n) → Vcs p n (rows.foldl (spStep p) found)
  | [], _, h, _ => h
  | r :: rows, found, h, hr => by
    rw [List.foldl_cons]
    exact foldl_vc hp (spStep_vc hp h (hr r List.mem_cons_self)) fun x hx => hr x (List.mem_cons_of_mem _ hx)
theorem spanL_vc {p : Int} {n : Nat} (hp : 0 < p) {rows : List (List Int)} (hr : ∀ r ∈ rows, r.length = n) : Vcs p n (spanL p n rows) := foldl_vc hp (fun v hv => by rw [List.mem_singleton.mp hv]; exact Vc.zer hp) hr
theorem mem_mSpan {p : Int} {n : Nat} {rows : List (List Int)} {v : List Int} : v ∈ mSpan p n rows ↔ v ∈ spanL p n rows := List.mem_mergeSort
end Dl
set_option Elab.async false
set_option linter.all false
set_option maxHeartbeats 2000000
/-! LawDef: what the laws' own defs leave; more rules. -/
namespace Dl
open PySem PySem.Spec PyProof.Rows L2
variable {F : Fm} {ks : List Kd} {E : Ends}
theorem EvAR.imp {ta : TA} {R S : List D → Prop} (h : EvAR F ks ta R) (i : ∀ d, R d → S d) : EvAR F ks ta S := fun M σ H o Q q => h M σ H o Q fun vs ds H' o' st a r => q vs ds H' o' st a (i ds r)
theorem OpV.imp {r : R2} {x y : D} {R S : D → Prop} (h : OpV F ks r x y R) (i : ∀ d, R d → S d) : OpV F ks r x y S := fun M σ H o v w a b Q q => h M σ H o v w a b Q fun z d H' o' st a' e => q z d H' o' st a' (i d e)
theorem rs_setB {te ti : TE} {i n : Nat} {k : Kd} {ds : List D} {d : D} {j : Int} {ψ : List D → Prop} {u : TS} (hk : ks[i]? = some k) (hm : isM k = true) (hw : ∀ x, wishK k x → x = ds) (h : Ev F ks te d) (hi : Ev F ks ti (.int j)) (hz : ixN ds.length j = some n) (hψ : ψ (ds.set n d)) (c : Run F (ks.set i (reK k ψ)) u E) :
    Run F ks (tSeq (tAsg te (gSub (tVar i) ti rSetL)) u) E :=
  run_seq (run_setR (Ri := fun x => x = j) hk hm h (hi.imp fun d e => ⟨j, rfl, e⟩) (fun es e j' h1 h2 h3 => ⟨n, by rw [hw es h1, h3]; exact hz, by rw [hw es h1, show e = d from h2]; exact hψ⟩) c)
theorem run_retSw {H0 : Hp} {M0 : List Addr} {Q : VK} {T R : D → Prop} {te : TE} {i : Nat} {a : Addr} {φ ψ : List D → Prop} (q : ∀ d v H' vs1 ds1, T d → (∀ b o, H0 b = some o → b ≠ a → H' b = some o) → H' a = some (.lst vs1) → Ats F.K (hid M0 H') vs1 ds1 → φ ds1 → At F.K (hid M0 H') v d → Q v H')
    (hb : Same (hid [a] H0) F.B) (lv : ∀ b ∈ F.M0, ∃ o, H0 b = some o) (hm : F.M0 = M0) (hE : E.rt = Q) (hk : ks[i]? = some (.bor ψ)) (hw : ∀ x, ψ x → φ x) (h : EvR F ks te R) (hi : ∀ d, R d → T d) : Run F ks (tRet te) E :=
  run_retS (φ := ψ) (fun d v H' vs1 ds1 h1 h2 h3 h4 h5 h6 => q d v H' vs1 ds1 h1 h2 h3 h4 (hw _ h5) h6) hb lv hm hE hk h hi
/-- the two ways out of an if meet again -/
theorem rs_join {α : Type} {tt : TT} {t u : TS} {R : Bool → Prop} (K : α → List Kd) (P : α → Prop) (h : EvTR F ks tt R) (h0 : ∃ a, P a ∧ KsLe ks (K a)) (h1 : R true → ∀ N : Sg → Hp → Prop, (∀ a, P a → Cont F (K a) N) → Run F ks t { E with nx := N }) (c : ∀ a, P a → Run F (K a) u E) : Run F ks (tSeq (tIfS tt t tNext) u) E :=
  rs_ifR h (fun r => h1 r (u E) fun a pa => c a pa) fun _ => by
    obtain ⟨a, pa, w⟩ := h0
    exact rs_weak (c a pa) w
theorem paired_vc {p : Int} {α : Type} : ∀ {xs : List α} {ds : List D}, Paired (fun _ d => ∃ r : Int, 0 ≤ r ∧ r < p ∧ d = .int r) xs ds → ∃ v, Vc p xs.length v ∧ ds = v.map D.int
  | _, _, .nil => ⟨[], ⟨rfl, fun x hx => absurd hx (by simp)⟩, rfl⟩
  | _, _, .cons ⟨r, h1, h2, e⟩ t => by
    obtain ⟨v, hv, e2⟩ := paired_vc t
    refine ⟨r :: v, ⟨by rw [List.length_cons, List.length_cons, hv.1], fun x hx => ?_⟩, by rw [e, e2]; rfl⟩
    rcases List.mem_cons.mp hx with e | h
    · rw [e]; exact ⟨h1, h2⟩
    · exact hv.2 x h
/-- reduced form, as the law looks at it -/
structure InForm (n : Nat) (l : List (List Int)) : Prop where
  len : ∀ i, i < l.length → (l.getD i []).length = n
  ne : ∀ i, i < l.length → nz (l.getD i []) ≠ []
  one : ∀ i, i < l.length → (l.getD i []).getD (mPv (l.getD i [])) 0 = 1
  inc : ∀ i j, i < j → j < l.length → mPv (l.getD i []) < mPv (l.getD j [])
  off : ∀ i k, i < l.length → k < l.length → k ≠ i → (l.getD k []).getD (mPv (l.getD i [])) 0 = 0
def lastP (l : List (List Int)) : Nat → Int
  | 0 => -1
  | i + 1 => (mPv (l.getD i []) : Int)
theorem InForm.last {n : Nat} {l : List (List Int)} (h : InForm n l) {i : Nat} (hi : i < l.length) : lastP l i < (mPv (l.getD i []) : Int) := by
  cases i with
  | zero => show (-1 : Int) < _; omega
  | succ i =>
    have := h.inc i (i + 1) (Nat.lt_succ_self i) hi
    show (mPv (l.getD i []) : Int) < _
    omega
theorem zips_rw (v w : List Int) : zips (v.map D.int) (w.map D.int) = (v.zip w).map fun p => .tup [.int p.1, .int p.2] := by
  unfold zips
  rw [List.zip_map, List.map_map]
  rfl
theorem zip_map_with (f : Int → Int → Int) (v w : List Int) : (v.zip w).map (fun p => f p.1 p.2) = List.zipWith f v w := by
  rw [List.zip, List.map_zipWith]
theorem ixN_nat {n m : Nat} (h : m < n) : ixN n (m : Int) = some m := by
  unfold ixN
  simp
  omega
end Dl
set_option Elab.async false
set_option linter.all false
set_option maxHeartbeats 2000000
/-! LinMath: rows modulo a prime, spans, reduced tables. No program in sight. -/
namespace Dl
open PySem L2
def cf (v : List Int) (k : Nat) : Int := v.getD k 0
theorem cf_def (v : List Int) (k : Nat) : v.getD k 0 = cf v k := rfl
theorem em_l (a b p : Int) : (a % p * b) % p = (a * b) % p := by rw [Int.mul_emod, Int.emod_emod, ← Int.mul_emod]
theorem em_r (a b p : Int) : (a * (b % p)) % p = (a * b) % p := by rw [Int.mul_emod, Int.emod_emod, ← Int.mul_emod]
theorem em_al (x a b p : Int) : (x + a % p * b) % p = (x + a * b) % p := by rw [← Int.add_emod_emod, em_l, Int.add_emod_emod]
theorem em_ar (x a b p : Int) : (x + a * (b % p)) % p = (x + a * b) % p := by rw [← Int.add_emod_emod, em_r, Int.add_emod_emod]
theorem em_sl (x a b p : Int) : (x - a % p * b) % p = (x - a * b) % p := by rw [← Int.sub_emod_emod, em_l, Int.sub_emod_emod]
theorem em_sr (x a b p : Int) : (x - a * (b % p)) % p = (x - a * b) % p := by rw [← Int.sub_emod_emod, em_r, Int.sub_emod_emod]
theorem cf_ge {v : List Int} {k : Nat} (h : v.length ≤ k) : cf v k = 0 := by
  unfold cf
  rw [List.getD_eq_getElem?_getD, List.getElem?_eq_none h]
  rfl
theorem cf_lt {v : List Int} {k : Nat} (h : k < v.length) : cf v k = v[k] := by
  unfold cf
  rw [List.getD_eq_getElem?_getD, List.getElem?_eq_getElem h]
  rfl
theorem cf_zer (n k : Nat) : cf (zer n) k = 0 := by
  by_cases h : k < (zer n).length
  · rw [cf_lt h]
    exact List.eq_of_mem_replicate (List.getElem_mem h)
  · exact cf_ge (by omega)
theorem cf_scl (p a : Int) (v : List Int) (k : Nat) : cf (mScl p a v) k = (cf v k * a) % p := by
  by_cases h : k < v.length
  · rw [cf_lt (by unfold mScl; rw [List.length_map]; exact h), cf_lt h]
    unfold mScl
    rw [List.getElem_map]
  · rw [cf_ge (by unfold mScl; rw [List.length_map]; omega), cf_ge (by omega : v.length ≤ k), Int.zero_mul, Int.zero_emod]
theorem cf_zip (f : Int → Int → Int) {v w : List Int} (h : v.length = w.length) (f0 : f 0 0 = 0) (k : Nat) : cf (List.zipWith f v w) k = f (cf v k) (cf w k) := by
  by_cases hk : k < v.length
  · rw [cf_lt (by rw [List.length_zipWith, ← h, Nat.min_self]; exact hk), cf_lt hk, cf_lt (by omega : k < w.length), List.getElem_zipWith]
  · rw [cf_ge (by rw [List.length_zipWith]; omega), cf_ge (by omega : v.length ≤ k), cf_ge (by omega : w.length ≤ k), f0]
theorem cf_add {p : Int} {v w : List Int} (h : v.length = w.length) (k : Nat) : cf (mAdd p v w) k = (cf v k + cf w k) % p := cf_zip _ h (by simp) k
theorem Vc.cf {p : Int} {n : Nat} {v : List Int} (hp : 0 < p) (h : Vc p n v) (k : Nat) : 0 ≤ cf v k ∧ Dl.cf v k < p := by
  by_cases hk : k < v.length
  · exact h.2 _ (getD_mem hk)
  · rw [cf_ge (by omega)]
    exact ⟨Int.le_refl _, hp⟩
theorem Vc.md {p : Int} {n : Nat} {v : List Int} (hp : 0 < p) (h : Vc p n v) (k : Nat) : Dl.cf v k % p = Dl.cf v k := Int.emod_eq_of_lt (h.cf hp k).1 (h.cf hp k).2
theorem cf_clr {p : Int} {n j : Nat} {head row : List Int} (hp : 0 < p) (hr : Vc p n row) (hh : head.length = n) (k : Nat) : cf (mClr p j head row) k = (cf row k - cf row j * cf head k) % p := by
  unfold mClr
  split
  · rename_i e
    rw [show cf row j = 0 from e, Int.zero_mul, Int.sub_zero, hr.md hp]
  · exact cf_zip (fun x y => (x - row.getD j 0 * y) % p) (by rw [hr.1, hh]) (by simp) k
theorem vext {p : Int} {n : Nat} {v w : List Int} (hp : 0 < p) (hv : Vc p n v) (hw : Vc p n w) (h : ∀ k, cf v k % p = cf w k % p) : v = w := by
  refine List.ext_getElem (by rw [hv.1, hw.1]) fun k h1 h2 => ?_
  rw [← cf_lt h1, ← cf_lt h2, ← hv.md hp k, ← hw.md hp k]
  exact h k
theorem vext0 {n : Nat} {v w : List Int} (hv : v.length = n) (hw : w.length = n) (h : ∀ k, k < n → cf v k = cf w k) : v = w := by
  refine List.ext_getElem (by rw [hv, hw]) fun k h1 h2 => ?_
  rw [← cf_lt h1, ← cf_lt h2]
  exact h k (by omega)
theorem scl_len {p a : Int} {v : List Int} : (mScl p a v).length = v.length := by
  unfold mScl
  rw [List.length_map]
theorem Vc.scl' {p a : Int} {n : Nat} {v : List Int} (hp : 0 < p) (h : Vc p n v) : Vc p n (mScl p a v) := Vc.scl hp h.1
theorem Vc.add' {p : Int} {n : Nat} {v w : List Int} (hp : 0 < p) (h : Vc p n v) (g : Vc p n w) : Vc p n (mAdd p v w) := Vc.add hp h.1 g.1
/-- the sums of multiples of the rows of A -/
inductive In (p : Int) (n : Nat) (A : List (List Int)) : List Int → Prop
  | zero : In p n A (zer n)
  | add {w r : List Int} (a : Int) : In p n A w → r ∈ A → In p n A (mAdd p w (mScl p a r))
section
variable {p : Int} {n : Nat} {A B : List (List Int)} (hp : 0 < p)
include hp
theorem In.vc (hA : Vcs p n A) {v : List Int} (h : In p n A v) : Vc p n v := by
  induction h with
  | zero => exact Vc.zer hp
  | add a _ hr ih => exact ih.add' hp ((hA _ hr).scl' hp)
theorem add_zer {v : List Int} (hv : Vc p n v) : mAdd p v (zer n) = v := by
  refine vext hp (hv.add' hp (Vc.zer hp)) hv fun k => ?_
  rw [cf_add (by rw [hv.1, (Vc.zer hp : Vc p n _).1]), cf_zer]
  simp only [Int.add_zero, Int.emod_emod]
theorem zer_add {v : List Int} (hv : Vc p n v) : mAdd p (zer n) v = v := by
  refine vext hp ((Vc.zer hp).add' hp hv) hv fun k => ?_
  rw [cf_add (by rw [hv.1, (Vc.zer hp : Vc p n _).1]), cf_zer]
  simp only [Int.zero_add, Int.emod_emod]
theorem add_assoc {u v w : List Int} (hu : Vc p n u) (hv : Vc p n v) (hw : Vc p n w) : mAdd p u (mAdd p v w) = mAdd p (mAdd p u v) w := by
  refine vext hp (hu.add' hp (hv.add' hp hw)) ((hu.add' hp hv).add' hp hw) fun k => ?_
  rw [cf_add (by rw [hu.1, (hv.add' hp hw).1]), cf_add (by rw [hv.1, hw.1]), cf_add (by rw [(hu.add' hp hv).1, hw.1]), cf_add (by rw [hu.1, hv.1])]
  simp only [Int.emod_add_emod, Int.add_emod_emod, Int.emod_emod]
  congr 1
  grind
theorem add_comm' {u v : List Int} (hu : Vc p n u) (hv : Vc p n v) : mAdd p u v = mAdd p v u := by
  refine vext hp (hu.add' hp hv) (hv.add' hp hu) fun k => ?_
  rw [cf_add (by rw [hu.1, hv.1]), cf_add (by rw [hu.1, hv.1]), Int.add_comm]
theorem scl_add {b : Int} {u v : List Int} (hu : Vc p n u) (hv : Vc p n v) : mScl p b (mAdd p u v) = mAdd p (mScl p b u) (mScl p b v) := by
  refine vext hp ((hu.add' hp hv).scl' hp) ((hu.scl' hp).add' hp (hv.scl' hp)) fun k => ?_
  rw [cf_scl, cf_add (by rw [hu.1, hv.1]), cf_add (by rw [scl_len, scl_len, hu.1, hv.1]), cf_scl, cf_scl]
  simp only [Int.emod_add_emod, Int.add_emod_emod, Int.emod_emod, em_l]
  congr 1
  grind
theorem scl_scl {a b : Int} {u : List Int} (hu : Vc p n u) : mScl p b (mScl p a u) = mScl p (a * b) u := by
  refine vext hp ((hu.scl' hp).scl' hp) (hu.scl' hp) fun k => ?_
  rw [cf_scl, cf_scl, cf_scl]
  simp only [Int.emod_emod, em_l]
  congr 1
  grind
theorem add_scl {a b : Int} {u : List Int} (hu : Vc p n u) : mAdd p (mScl p a u) (mScl p b u) = mScl p (a + b) u := by
  refine vext hp ((hu.scl' hp).add' hp (hu.scl' hp)) (hu.scl' hp) fun k => ?_
  rw [cf_add (by rw [scl_len, scl_len]), cf_scl, cf_scl, cf_scl]
  simp only [Int.emod_emod, Int.emod_add_emod, Int.add_emod_emod]
  congr 1
  grind
theorem scl_zer {b : Int} : mScl p b (zer n) = zer n := by
  refine vext hp ((Vc.zer hp).scl' hp) (Vc.zer hp) fun k => ?_
  rw [cf_scl, cf_zer, Int.zero_mul, Int.emod_emod]
theorem scl_0 {u : List Int} (hu : Vc p n u) : mScl p 0 u = zer n := by
  refine vext hp (hu.scl' hp) (Vc.zer hp) fun k => ?_
  rw [cf_scl, cf_zer, Int.mul_zero, Int.emod_emod]
theorem scl_1 {b : Int} {u : List Int} (hu : Vc p n u) (hb : b % p = 1) : mScl p b u = u := by
  refine vext hp (hu.scl' hp) hu fun k => ?_
  rw [cf_scl, Int.emod_emod, ← em_r, hb, Int.mul_one]
theorem scl_mod {b : Int} {u : List Int} (hu : Vc p n u) : mScl p (b % p) u = mScl p b u := by
  refine vext hp (hu.scl' hp) (hu.scl' hp) fun k => ?_
  rw [cf_scl, cf_scl, em_r]
theorem clr_add {j : Nat} {head row : List Int} (hh : Vc p n head) (hr : Vc p n row) : mClr p j head row = mAdd p row (mScl p (-(cf row j)) head) := by
  refine vext hp (Vc.clr hp hh.1 hr) (hr.add' hp (hh.scl' hp)) fun k => ?_
  rw [cf_clr hp hr hh.1, cf_add (by rw [scl_len, hr.1, hh.1]), cf_scl]
  simp only [Int.emod_emod, Int.emod_add_emod, Int.add_emod_emod]
  congr 1
  grind
theorem clr_back {j : Nat} {head row : List Int} (hh : Vc p n head) (hr : Vc p n row) : row = mAdd p (mClr p j head row) (mScl p (cf row j) head) := by
  refine vext hp hr ((Vc.clr hp hh.1 hr).add' hp (hh.scl' hp)) fun k => ?_
  rw [cf_add (by rw [scl_len, (Vc.clr hp hh.1 hr).1, hh.1]), cf_scl, cf_clr hp hr hh.1]
  simp only [Int.emod_emod, Int.emod_add_emod, Int.add_emod_emod]
  congr 1
  grind
theorem In.sum (hA : Vcs p n A) {v w : List Int} (hv : In p n A v) (hw : In p n A w) : In p n A (mAdd p v w) := by
  induction hw with
  | zero => rw [add_zer hp (hv.vc hp hA)]; exact hv
  | add a h hr ih =>
    rw [add_assoc hp (hv.vc hp hA) (h.vc hp hA) ((hA _ hr).scl' hp)]
    exact .add a ih hr
theorem In.scl (hA : Vcs p n A) {b : Int} {v : List Int} (hv : In p n A v) : In p n A (mScl p b v) := by
  induction hv with
  | zero => rw [scl_zer hp]; exact .zero
  | add a h hr ih =>
    rw [scl_add hp (h.vc hp hA) ((hA _ hr).scl' hp), scl_scl hp (hA _ hr)]
    exact .add _ ih hr
theorem In.row (hA : Vcs p n A) (h2 : 2 ≤ p) {r : List Int} (hr : r ∈ A) : In p n A r := by
  have h := In.add (p := p) (n := n) (A := A) 1 .zero hr
  rw [zer_add hp ((hA _ hr).scl' hp), scl_1 hp (hA _ hr) (Int.emod_eq_of_lt (by omega) (by omega))] at h
  exact h
theorem In.mono (hB : Vcs p n B) (h : ∀ r ∈ A, In p n B r) {v : List Int} (hv : In p n A v) : In p n B v := by
  induction hv with
  | zero => exact .zero
  | add a _ hr ih => exact ih.sum hp hB ((h _ hr).scl hp hB)
end
theorem In.sub {p : Int} {n : Nat} {A B : List (List Int)} (h : ∀ r ∈ A, r ∈ B) {v : List Int} (hv : In p n A v) : In p n B v := by
  induction hv with
  | zero => exact .zero
  | add a _ hr ih => exact .add a ih (h _ hr)
/-! ### the span, listed -/
section
variable {p : Int} {n : Nat} {A : List (List Int)} {F : List (List Int)}
theorem mem_step {v r : List Int} (c : r ∉ F) : v ∈ spStep p F r ↔ ∃ w ∈ F, ∃ a : Nat, a < p.toNat ∧ v = mAdd p w (mScl p (a : Int) r) := by
  unfold spStep
  rw [if_neg c, List.mem_flatMap]
  constructor
  · rintro ⟨w, hw, h⟩
    obtain ⟨a, ha, e⟩ := List.mem_map.mp h
    exact ⟨w, hw, a, List.mem_range.mp ha, e.symm⟩
  · rintro ⟨w, hw, a, ha, e⟩
    exact ⟨w, hw, List.mem_map.mpr ⟨a, List.mem_range.mpr ha, e.symm⟩⟩
theorem step_in (h2 : 2 ≤ p) (hA : Vcs p n A) {r : List Int} (hr : Vc p n r) (hF : ∀ v, v ∈ F ↔ In p n A v) (v : List Int) : v ∈ spStep p F r ↔ In p n (A ++ [r]) v := by
  have hp : 0 < p := by omega
  have hA' : Vcs p n (A ++ [r]) := fun x hx => by
    rcases List.mem_append.mp hx with h | h
    · exact hA x h
    · rw [List.mem_singleton.mp h]; exact hr
  by_cases c : r ∈ F
  · unfold spStep
    rw [if_pos c, hF]
    refine ⟨fun h => h.sub fun x hx => List.mem_append_left _ hx, fun h => h.mono hp hA fun x hx => ?_⟩
    rcases List.mem_append.mp hx with h | h
    · exact In.row hp hA h2 h
    · rw [List.mem_singleton.mp h]; exact (hF r).mp c
  · rw [mem_step c]
    constructor
    · rintro ⟨w, hw, a, _, rfl⟩
      exact .add _ (((hF w).mp hw).sub fun x hx => List.mem_append_left _ hx) (List.mem_append_right _ (List.mem_singleton.mpr rfl))
    · intro h
      induction h with
      | zero => exact ⟨zer n, (hF _).mpr .zero, 0, by omega, by
          rw [show ((0 : Nat) : Int) = 0 from rfl, scl_0 hp hr, add_zer hp (Vc.zer hp)]⟩
      | add b h hx ih =>
        obtain ⟨w, hw, a, ha, e⟩ := ih
        have hwv := ((hF w).mp hw).vc hp hA
        rcases List.mem_append.mp hx with h | h
        · rename_i x _
          refine ⟨mAdd p w (mScl p b x), (hF _).mpr (.add b ((hF w).mp hw) h), a, ha, ?_⟩
          have hxv := hA _ h
          rw [e, ← add_assoc hp hwv (hr.scl' hp) (hxv.scl' hp), add_comm' hp (hr.scl' hp) (hxv.scl' hp), add_assoc hp hwv (hxv.scl' hp) (hr.scl' hp)]
        · rw [List.mem_singleton.mp h]
          refine ⟨w, hw, (((a : Int) + b) % p).toNat, ?_, ?_⟩
          · have := emod_in hp ((a : Int) + b)
            omega
          · rw [Int.toNat_of_nonneg (emod_in hp _).1, scl_mod hp hr, ← add_scl hp hr, e, add_assoc hp hwv (hr.scl' hp) (hr.scl' hp)]
theorem nodup_flatMap' {α β : Type} {f : α → List β} : ∀ {l : List α}, l.Nodup → (∀ a ∈ l, (f a).Nodup) → (∀ a ∈ l, ∀ b ∈ l, a ≠ b → ∀ x ∈ f a, x ∉ f b) → (l.flatMap f).Nodup
  | [], _, _, _ => by simp
  | a :: l, h, h1, h2 => by
    rw [List.flatMap_cons, List.nodup_append]
    rw [List.nodup_cons] at h
    refine ⟨h1 a List.mem_cons_self, nodup_flatMap' h.2 (fun b hb => h1 b (List.mem_cons_of_mem _ hb)) (fun b hb c hc => h2 b (List.mem_cons_of_mem _ hb) c (List.mem_cons_of_mem _ hc)), fun x hx y hy e => ?_⟩
    subst e
    obtain ⟨b, hb, hy⟩ := List.mem_flatMap.mp hy
    exact h2 a List.mem_cons_self b (List.mem_cons_of_mem _ hb) (fun e => h.1 (e ▸ hb)) x hx hy
theorem nodup_map' {α β : Type} {f : α → β} : ∀ {l : List α}, l.Nodup → (∀ a ∈ l, ∀ b ∈ l, f a = f b → a = b) → (l.map f).Nodup
  | [], _, _ => by simp
  | a :: l, h, h1 => by
    rw [List.map_cons, List.nodup_cons]
    rw [List.nodup_cons] at h
    refine ⟨fun hx => ?_, nodup_map' h.2 fun b hb c hc => h1 b (List.mem_cons_of_mem _ hb) c (List.mem_cons_of_mem _ hc)⟩
    obtain ⟨b, hb, e⟩ := List.mem_map.mp hx
    exact h.1 (h1 a List.mem_cons_self b (List.mem_cons_of_mem _ hb) e.symm ▸ hb)
/-- w + a r = w' + b r with a ≠ b: r is a sum of the rows -/
theorem step_uni (hP : PR p) (hA : Vcs p n A) {r w w' : List Int} (hr : Vc p n r) (hw : In p n A w) (hw' : In p n A w') {a b : Nat} (ha : a < p.toNat) (hb : b < p.toNat) (e : mAdd p w (mScl p (a : Int) r) = mAdd p w' (mScl p (b : Int) r)) (c : ¬ In p n A r) : a = b ∧ w = w' := by
  have hp := hP.pos
  have h2 := hP.two
  have hwv := hw.vc hp hA
  have hwv' := hw'.vc hp hA
  have ee : ∀ k, (cf w k + cf r k * a) % p = (cf w' k + cf r k * b) % p := fun k => by
    have h := congrArg (fun z => cf z k) e
    rw [cf_add (by rw [scl_len, hwv.1, hr.1]), cf_add (by rw [scl_len, hwv'.1, hr.1]), cf_scl, cf_scl, Int.add_emod_emod, Int.add_emod_emod] at h
    exact h
  have hab : a = b := by
    refine Decidable.byContradiction fun hne => c ?_
    have hd : ((a : Int) - b) % p ≠ 0 := by
      intro z
      have h3 := Int.ediv_mul_add_emod ((a : Int) - b) p
      rw [z] at h3
      have h4 : (a : Int) - b = ((a : Int) - b) / p * p := by omega
      generalize ((a : Int) - b) / p = q at h4
      have : q = 0 := by
        rcases Int.lt_trichotomy q 0 with h | h | h
        · have : q * p ≤ (-1) * p := Int.mul_le_mul_of_nonneg_right (by omega) (by omega)
          omega
        · exact h
        · have : 1 * p ≤ q * p := Int.mul_le_mul_of_nonneg_right (by omega) (by omega)
          omega
      rw [this] at h4
      omega
    obtain ⟨h5, h6, h7⟩ := mInv_ok hP hd
    have e2 : r = mScl p (mInv p ((a : Int) - b)) (mAdd p w' (mScl p (-1) w)) := by
      refine vext hp hr ((hwv'.add' hp (hwv.scl' hp)).scl' hp) fun k => ?_
      rw [cf_scl, cf_add (by rw [scl_len, hwv.1, hwv'.1]), cf_scl]
      have hk : (cf r k * ((a : Int) - b)) % p = (cf w' k - cf w k) % p := by
        have h8 := ee k
        rw [show cf r k * ((a : Int) - b) = (cf w k + cf r k * a) - (cf w k + cf r k * b) by grind, Int.sub_emod, h8, ← Int.sub_emod]
        congr 1
        grind
      simp only [Int.emod_emod, Int.add_emod_emod, em_l]
      rw [show (cf w' k + cf w k * -1) * mInv p ((a : Int) - b) = (cf w' k - cf w k) * mInv p ((a : Int) - b) by grind, ← em_l, ← hk, em_l, show cf r k * ((a : Int) - b) * mInv p ((a : Int) - b) = cf r k * (((a : Int) - b) * mInv p ((a : Int) - b)) by grind, ← em_r, h7, Int.mul_one]
    rw [e2]
    exact (hw'.sum hp hA (hw.scl hp hA)).scl hp hA
  refine ⟨hab, vext hp hwv hwv' fun k => ?_⟩
  have h8 := ee k
  rw [hab] at h8
  have h9 := congrArg (fun z => (z - cf r k * b) % p) h8
  rw [Int.emod_sub_emod, Int.emod_sub_emod] at h9
  rw [show cf w k = cf w k + cf r k * b - cf r k * b by grind, h9]
  congr 1
  grind
theorem step_nodup (hP : PR p) (hA : Vcs p n A) {r : List Int} (hr : Vc p n r) (hF : ∀ v, v ∈ F ↔ In p n A v) (hN : F.Nodup) : (spStep p F r).Nodup := by
  by_cases c : r ∈ F
  · unfold spStep
    rw [if_pos c]
    exact hN
  · have c2 : ¬ In p n A r := fun h => c ((hF r).mpr h)
    unfold spStep
    rw [if_neg c]
    refine nodup_flatMap' hN (fun w hw => nodup_map' List.nodup_range fun a ha b hb e => ?_) fun w hw w' hw' hne x hx hx' => ?_
    · exact (step_uni hP hA hr ((hF w).mp hw) ((hF w).mp hw) (List.mem_range.mp ha) (List.mem_range.mp hb) e c2).1
    · obtain ⟨a, ha, rfl⟩ := List.mem_map.mp hx
      obtain ⟨b, hb, e⟩ := List.mem_map.mp hx'
      exact hne (step_uni hP hA hr ((hF w).mp hw) ((hF w').mp hw') (List.mem_range.mp ha) (List.mem_range.mp hb) e.symm c2).2
theorem fold_in (hP : PR p) : ∀ {rows A F : List (List Int)}, Vcs p n A → Vcs p n rows → (∀ v, v ∈ F ↔ In p n A v) → F.Nodup → (∀ v, v ∈ rows.foldl (spStep p) F ↔ In p n (A ++ rows) v) ∧ (rows.foldl (spStep p) F).Nodup
  | [], A, F, hA, hR, hF, hN => ⟨by rw [List.append_nil]; exact hF, hN⟩
  | r :: rows, A, F, hA, hR, hF, hN => by
    have hr := hR r List.mem_cons_self
    have hA' : Vcs p n (A ++ [r]) := fun x hx => by
      rcases List.mem_append.mp hx with h | h
      · exact hA x h
      · rw [List.mem_singleton.mp h]; exact hr
    have h := fold_in hP (rows := rows) (A := A ++ [r]) (F := spStep p F r) hA' (fun x hx => hR x (List.mem_cons_of_mem _ hx)) (step_in hP.two hA hr hF) (step_nodup hP hA hr hF hN)
    rw [List.append_assoc, List.singleton_append] at h
    exact h
theorem mem_spanL (hP : PR p) {rows : List (List Int)} (hR : Vcs p n rows) (v : List Int) : v ∈ spanL p n rows ↔ In p n rows v :=
  (fold_in hP (A := []) (F := [zer n]) (fun x hx => absurd hx (by simp)) hR (fun v => by
    rw [List.mem_singleton]
    refine ⟨fun e => by rw [e]; exact .zero, fun h => ?_⟩
    cases h with
    | zero => rfl
    | add a _ h => exact absurd h (by simp)) (by simp)).1 v
theorem nodup_spanL (hP : PR p) {rows : List (List Int)} (hR : Vcs p n rows) : (spanL p n rows).Nodup :=
  (fold_in hP (A := []) (F := [zer n]) (fun x hx => absurd hx (by simp)) hR (fun v => by
    rw [List.mem_singleton]
    refine ⟨fun e => by rw [e]; exact .zero, fun h => ?_⟩
    cases h with
    | zero => rfl
    | add a _ h => exact absurd h (by simp)) (by simp)).2
theorem mSpan_in (hP : PR p) {rows : List (List Int)} (hR : Vcs p n rows) (v : List Int) : v ∈ mSpan p n rows ↔ In p n rows v := mem_mSpan.trans (mem_spanL hP hR v)
end
theorem leR_iff (a b : List Int) : SortR.leR a b = true ↔ a ≤ b := by
  unfold SortR.leR
  exact decide_eq_true_iff
theorem mSpan_eq {p : Int} {n : Nat} (hP : PR p) {A B : List (List Int)} (hA : Vcs p n A) (hB : Vcs p n B) (h : ∀ v, In p n A v ↔ In p n B v) : mSpan p n A = mSpan p n B := by
  have tr : ∀ a b c : List Int, SortR.leR a b = true → SortR.leR b c = true → SortR.leR a c = true := fun a b c h1 h2 => (leR_iff _ _).mpr (List.le_trans ((leR_iff _ _).mp h1) ((leR_iff _ _).mp h2))
  have to : ∀ a b : List Int, (SortR.leR a b || SortR.leR b a) = true := fun a b => by
    rcases List.le_total a b with h | h
    · rw [(leR_iff _ _).mpr h]; rfl
    · rw [(leR_iff _ _).mpr h, Bool.or_true]
  unfold mSpan
  refine List.Perm.eq_of_pairwise (le := fun a b => SortR.leR a b = true) (fun a b _ _ h1 h2 => List.le_antisymm ((leR_iff _ _).mp h1) ((leR_iff _ _).mp h2)) (List.pairwise_mergeSort tr to _) (List.pairwise_mergeSort tr to _) ?_
  refine (List.mergeSort_perm _ _).trans (List.Perm.trans ?_ (List.mergeSort_perm _ _).symm)
  rw [List.perm_ext_iff_of_nodup (nodup_spanL hP hA) (nodup_spanL hP hB)]
  intro v
  rw [mem_spanL hP hA, mem_spanL hP hB, h v]
/-! ### one step of the reduction keeps the sums -/
theorem mem_erase_or {α : Type} (d : α) : ∀ {l : List α} {h : Nat} {x : α}, x ∈ l → x = l.getD h d ∨ x ∈ l.eraseIdx h
  | [], _, _, e => absurd e (by simp)
  | a :: l, 0, x, e => by
    rcases List.mem_cons.mp e with e | e
    · exact .inl e
    · exact .inr e
  | a :: l, h + 1, x, e => by
    rw [List.eraseIdx_cons_succ]
    rcases List.mem_cons.mp e with e | e
    · exact .inr (e ▸ List.mem_cons_self)
    · rcases mem_erase_or d (h := h) e with e | e
      · exact .inl e
      · exact .inr (List.mem_cons_of_mem _ e)
def rAll (s : RS) : List (List Int) := s.left ++ s.found
theorem RSok.all {p : Int} {n m : Nat} {s : RS} (h : RSok p n m s) : Vcs p n (rAll s) := fun x hx => by
  rcases List.mem_append.mp hx with h1 | h1
  · exact h.l x h1
  · exact h.f x h1
theorem rStep_in {p : Int} {n m j : Nat} {s : RS} (hP : PR p) (h : RSok p n m s) (v : List Int) : In p n (rAll (rStep p s j)) v ↔ In p n (rAll s) v := by
  have hp := hP.pos
  have h2 := hP.two
  have h' := rStep_ok (j := j) hp h
  cases e : hds s.left j with
  | nil => rw [rStep_nil e]
  | cons k t =>
    obtain ⟨g1, g2⟩ := hds_mem (by rw [e]; exact List.mem_cons_self : k ∈ hds s.left j)
    have hv := h.l _ (getD_memL g1)
    have hc := (hv.cf hp j)
    have g3 : cf (s.left.getD k []) j % p ≠ 0 := by rw [hv.md hp j]; exact g2
    have hi := mInv_ok hP g3
    have hA := h.all
    have hB := h'.all
    rw [rStep_cons e] at hB ⊢
    rw [cf_def] at hB ⊢
    generalize hhd : s.left.getD k [] = hd at *
    have hm : hd ∈ rAll s := List.mem_append_left _ (hhd ▸ getD_memL g1)
    have hI : In p n (rAll s) (mScl p (mInv p (cf hd j)) hd) := (In.row hp hA h2 hm).scl hp hA
    have hh : Vc p n (mScl p (mInv p (cf hd j)) hd) := hv.scl' hp
    have hback : mScl p (cf hd j) (mScl p (mInv p (cf hd j)) hd) = hd := by
      rw [scl_scl hp hv]
      exact scl_1 hp hv (by rw [Int.mul_comm]; exact hi.2.2)
    generalize mScl p (mInv p (cf hd j)) hd = head at *
    have hnew : head ∈ rAll ⟨(s.left.eraseIdx k).map (mClr p j head), s.found.map (mClr p j head) ++ [head], s.piv ++ [(j : Int)]⟩ := List.mem_append_right _ (List.mem_append_right _ (List.mem_singleton.mpr rfl))
    have clr : ∀ r, r ∈ rAll s → In p n (rAll s) (mClr p j head r) := fun r hr => by
      rw [clr_add hp hh (hA _ hr)]
      exact (In.row hp hA h2 hr).sum hp hA (hI.scl hp hA)
    refine ⟨fun hv => hv.mono hp hA fun r hr => ?_, fun hv => hv.mono hp hB fun r hr => ?_⟩
    · rcases List.mem_append.mp hr with hr | hr
      · obtain ⟨x, hx, rfl⟩ := List.mem_map.mp hr
        exact clr x (List.mem_append_left _ (List.mem_of_mem_eraseIdx hx))
      · rcases List.mem_append.mp hr with hr | hr
        · obtain ⟨x, hx, rfl⟩ := List.mem_map.mp hr
          exact clr x (List.mem_append_right _ hx)
        · rw [List.mem_singleton.mp hr]
          exact hI
    · have back : mClr p j head r ∈ rAll ⟨(s.left.eraseIdx k).map (mClr p j head), s.found.map (mClr p j head) ++ [head], s.piv ++ [(j : Int)]⟩ → In p n (rAll ⟨(s.left.eraseIdx k).map (mClr p j head), s.found.map (mClr p j head) ++ [head], s.piv ++ [(j : Int)]⟩) r := fun hm => by
        rw [clr_back (j := j) hp hh (hA r hr)]
        exact (In.row hp hB h2 hm).sum hp hB ((In.row hp hB h2 hnew).scl hp hB)
      rcases List.mem_append.mp hr with hr' | hr'
      · rcases mem_erase_or [] (h := k) hr' with e1 | e1
        · rw [e1, hhd, ← hback]
          exact (In.row hp hB h2 hnew).scl hp hB
        · exact back (List.mem_append_left _ (List.mem_map.mpr ⟨r, e1, rfl⟩))
      · exact back (List.mem_append_right _ (List.mem_append_left _ (List.mem_map.mpr ⟨r, hr', rfl⟩)))
theorem rRun_in {p : Int} {n : Nat} {rows : List (List Int)} (hP : PR p) (h : Vcs p n rows) (v : List Int) : ∀ k, In p n (rAll (rRun p rows k)) v ↔ In p n rows v
  | 0 => by
    show In p n (rows ++ []) v ↔ _
    rw [List.append_nil]
  | k + 1 => by
    rw [rRun_succ, rStep_in hP (rRun_ok hP.pos h k), rRun_in hP h v k]
/-! ### the form -/
structure RF (j : Nat) (s : RS) : Prop where
  left0 : ∀ r ∈ s.left, ∀ k, k < j → cf r k = 0
  pn : ∀ i, i < s.found.length → ∃ q : Nat, s.piv[i]? = some (q : Int) ∧ q < j ∧ (∀ k, k < q → cf (s.found.getD i []) k = 0) ∧ cf (s.found.getD i []) q = 1 ∧ ∀ i', i' < s.found.length → i' ≠ i → cf (s.found.getD i' []) q = 0
  inc : ∀ (i i' : Nat) (q q' : Int), i < i' → s.piv[i]? = some q → s.piv[i']? = some q' → q < q'
theorem getD_app1 {α : Type} (d : α) {l m : List α} {i : Nat} (h : i < l.length) : (l ++ m).getD i d = l.getD i d := by
  rw [List.getD_eq_getElem?_getD, List.getD_eq_getElem?_getD, List.getElem?_append_left h]
theorem getD_app2 {α : Type} (d : α) {l : List α} {x : α} : (l ++ [x]).getD l.length d = x := by
  rw [List.getD_eq_getElem?_getD, List.getElem?_append_right (Nat.le_refl _), Nat.sub_self]
  rfl
theorem getD_map' {α β : Type} (f : α → β) (d : α) (e : β) {l : List α} {i : Nat} (h : i < l.length) : (l.map f).getD i e = f (l.getD i d) := by
  rw [List.getD_eq_getElem?_getD, List.getElem?_map, List.getElem?_eq_getElem h, List.getD_eq_getElem?_getD, List.getElem?_eq_getElem h]
  rfl
theorem rStep_rf {p : Int} {n m j : Nat} {s : RS} (hP : PR p) (h : RSok p n m s) (hf : RF j s) : RF (j + 1) (rStep p s j) := by
  have hp := hP.pos
  have h2 := hP.two
  cases e : hds s.left j with
  | nil =>
    rw [rStep_nil e]
    refine ⟨fun r hr k hk => ?_, fun i hi => ?_, hf.inc⟩
    · by_cases c : k = j
      · subst c
        refine Decidable.byContradiction fun hne => ?_
        obtain ⟨i, hi, rfl⟩ := List.getElem_of_mem hr
        have : i ∈ hds s.left k := by
          unfold hds
          refine List.mem_filter.mpr ⟨List.mem_range.mpr hi, ?_⟩
          rw [List.getD_eq_getElem?_getD (l := s.left), List.getElem?_eq_getElem hi, cf_def]
          simpa using hne
        rw [e] at this
        cases this
      · exact hf.left0 r hr k (by omega)
    · obtain ⟨q, h1, h2, h3⟩ := hf.pn i hi
      exact ⟨q, h1, by omega, h3⟩
  | cons k t =>
    obtain ⟨g1, g2⟩ := hds_mem (by rw [e]; exact List.mem_cons_self : k ∈ hds s.left j)
    have hv := h.l _ (getD_memL g1)
    have hv0 := hf.left0 _ (getD_memL g1)
    have g3 : cf (s.left.getD k []) j % p ≠ 0 := by rw [hv.md hp j]; exact g2
    have hi := mInv_ok hP g3
    rw [rStep_cons e]
    rw [cf_def]
    generalize s.left.getD k [] = hd at *
    have hh : Vc p n (mScl p (mInv p (cf hd j)) hd) := hv.scl' hp
    have hh0 : ∀ k, k < j → cf (mScl p (mInv p (cf hd j)) hd) k = 0 := fun k hk => by
      rw [cf_scl, hv0 k hk, Int.zero_mul, Int.zero_emod]
    have hh1 : cf (mScl p (mInv p (cf hd j)) hd) j = 1 := by
      rw [cf_scl]
      exact hi.2.2
    generalize mScl p (mInv p (cf hd j)) hd = head at *
    have cj : ∀ r, Vc p n r → cf (mClr p j head r) j = 0 := fun r hr => by
      rw [cf_clr hp hr hh.1, hh1, Int.mul_one, Int.sub_self, Int.zero_emod]
    have ck : ∀ r, Vc p n r → ∀ k, k < j → cf (mClr p j head r) k = cf r k := fun r hr k hk => by
      rw [cf_clr hp hr hh.1, hh0 k hk, Int.mul_zero, Int.sub_zero, hr.md hp]
    have hlen : (s.found.map (mClr p j head)).length = s.found.length := List.length_map _
    have hpl := h.pl
    have gf : ∀ i, i < s.found.length → (s.found.map (mClr p j head) ++ [head]).getD i [] = mClr p j head (s.found.getD i []) := fun i hi => by
      rw [getD_app1 _ (by rw [hlen]; exact hi), getD_map' _ [] _ hi]
    have gl : (s.found.map (mClr p j head) ++ [head]).getD s.found.length [] = head := by
      have := getD_app2 ([] : List Int) (l := s.found.map (mClr p j head)) (x := head)
      rwa [hlen] at this
    refine ⟨fun r hr k hk => ?_, fun i hi => ?_, fun i i' q q' hii hq hq' => ?_⟩
    · obtain ⟨x, hx, rfl⟩ := List.mem_map.mp hr
      have hx' := List.mem_of_mem_eraseIdx hx
      have hxv := h.l x hx'
      by_cases c : k = j
      · subst c
        exact cj x hxv
      · rw [ck x hxv k (by omega)]
        exact hf.left0 x hx' k (by omega)
    · rw [List.length_append, hlen, List.length_singleton] at hi
      show ∃ q : Nat, (s.piv ++ [(j : Int)])[i]? = some (q : Int) ∧ _
      by_cases c : i < s.found.length
      · obtain ⟨q, h1, h2, h3, h4, h5⟩ := hf.pn i c
        have hxv := h.f _ (getD_memL c)
        refine ⟨q, by rw [List.getElem?_append_left (by omega)]; exact h1, by omega, fun k hk => ?_, ?_, fun i' hi' hne => ?_⟩
        · rw [gf i c, ck _ hxv k (by omega)]
          exact h3 k hk
        · rw [gf i c, ck _ hxv q h2]
          exact h4
        · rw [List.length_append, hlen, List.length_singleton] at hi'
          by_cases c' : i' < s.found.length
          · rw [gf i' c', ck _ (h.f _ (getD_memL c')) q h2]
            exact h5 i' c' hne
          · have : i' = s.found.length := by omega
            rw [this, gl]
            exact hh0 q h2
      · have ei : i = s.found.length := by omega
        rw [ei]
        refine ⟨j, by rw [← hpl, List.getElem?_append_right (Nat.le_refl _), Nat.sub_self]; rfl, by omega, fun k hk => by rw [gl]; exact hh0 k hk, by rw [gl]; exact hh1, fun i' hi' hne => ?_⟩
        rw [List.length_append, hlen, List.length_singleton] at hi'
        have c' : i' < s.found.length := by omega
        rw [gf i' c']
        exact cj _ (h.f _ (getD_memL c'))
    · by_cases c : i' < s.piv.length
      · rw [List.getElem?_append_left (by omega)] at hq
        rw [List.getElem?_append_left c] at hq'
        exact hf.inc i i' q q' hii hq hq'
      · have hl2 : i' < (s.piv ++ [(j : Int)]).length := by
          refine Nat.lt_of_not_le fun z => ?_
          rw [List.getElem?_eq_none z] at hq'
          cases hq'
        rw [List.length_append, List.length_singleton] at hl2
        have ei : i' = s.piv.length := by omega
        rw [ei, List.getElem?_append_right (Nat.le_refl _), Nat.sub_self] at hq'
        have eq' : q' = (j : Int) := by simpa using hq'.symm
        rw [List.getElem?_append_left (by omega)] at hq
        obtain ⟨q0, h1, h2, _⟩ := hf.pn i (by omega)
        rw [h1] at hq
        have eq : (q0 : Int) = q := by simpa using hq
        omega
theorem rRun_rf {p : Int} {n : Nat} {rows : List (List Int)} (hP : PR p) (h : Vcs p n rows) : ∀ k, RF k (rRun p rows k)
  | 0 => ⟨fun r hr k hk => absurd hk (Nat.not_lt_zero k), fun i hi => absurd hi (Nat.not_lt_zero i), fun i i' q q' _ h1 _ => absurd h1 (by simp [rRun])⟩
  | k + 1 => by
    rw [rRun_succ]
    exact rStep_rf hP (rRun_ok hP.pos h k) (rRun_rf hP h k)
/-- a row's first item that is not 0 -/
theorem lead {v : List Int} {q : Nat} (h0 : ∀ k, k < q → cf v k = 0) (h1 : cf v q ≠ 0) : nz v ≠ [] ∧ mPv v = q := by
  have hq : q < v.length := Nat.lt_of_not_le fun z => h1 (cf_ge z)
  have hm : q ∈ nz v := by
    unfold nz
    exact List.mem_filter.mpr ⟨List.mem_range.mpr hq, by rw [cf_def]; simpa using h1⟩
  have hne : nz v ≠ [] := fun z => by rw [z] at hm; cases hm
  refine ⟨hne, ?_⟩
  have h3 := nz_mem (mPv_mem hne)
  have h4 : q ≤ mPv v := Nat.le_of_not_lt fun z => h3.2 (h0 _ z)
  have hs : (nz v).Pairwise (· < ·) := by
    unfold nz
    exact List.Pairwise.filter _ List.pairwise_lt_range
  have h5 : mPv v ≤ q := by
    unfold mPv
    cases e : nz v with
    | nil => exact absurd e hne
    | cons a t =>
      rw [e] at hm hs
      rcases List.mem_cons.mp hm with h | h
      · exact Nat.le_of_eq h.symm
      · exact Nat.le_of_lt ((List.pairwise_cons.mp hs).1 q h)
  omega
theorem red_form {p : Int} {n : Nat} {rows : List (List Int)} (hP : PR p) (h : Vcs p n rows) : InForm n (mRed p n rows) ∧ mPiv p n rows = (mRed p n rows).map fun r => (mPv r : Int) := by
  have hf := rRun_rf hP h n
  have ho := rRun_ok hP.pos h n
  have key : ∀ i, i < (mRed p n rows).length → nz ((mRed p n rows).getD i []) ≠ [] ∧ (rRun p rows n).piv[i]? = some (mPv ((mRed p n rows).getD i []) : Int) ∧ cf ((mRed p n rows).getD i []) (mPv ((mRed p n rows).getD i [])) = 1 ∧ ∀ i', i' < (mRed p n rows).length → i' ≠ i → cf ((mRed p n rows).getD i' []) (mPv ((mRed p n rows).getD i [])) = 0 := fun i hi => by
    obtain ⟨q, h1, h2, h3, h4, h5⟩ := hf.pn i hi
    obtain ⟨h6, h7⟩ := lead (v := (mRed p n rows).getD i []) h3 (by show cf ((rRun p rows n).found.getD i []) q ≠ 0; rw [h4]; decide)
    rw [h7]
    exact ⟨h6, h1, h4, h5⟩
  refine ⟨⟨fun i hi => (ho.f _ (getD_memL hi)).1, fun i hi => (key i hi).1, fun i hi => (key i hi).2.2.1, fun i j hij hj => ?_, fun i k hi hk hne => (key i hi).2.2.2 k hk hne⟩, ?_⟩
  · have h1 := hf.inc i j _ _ hij (key i (by omega)).2.1 (key j hj).2.1
    omega
  · refine List.ext_getElem? fun i => ?_
    by_cases c : i < (mRed p n rows).length
    · show (rRun p rows n).piv[i]? = _
      rw [(key i c).2.1, List.getElem?_map, List.getElem?_eq_getElem c, List.getD_eq_getElem?_getD, List.getElem?_eq_getElem c]
      rfl
    · have hpl := ho.pl
      rw [List.getElem?_eq_none (by show (rRun p rows n).piv.length ≤ i; rw [hpl]; exact Nat.le_of_not_lt c), List.getElem?_eq_none (by rw [List.length_map]; exact Nat.le_of_not_lt c)]
theorem red_vcs {p : Int} {n : Nat} {rows : List (List Int)} (hP : PR p) (h : Vcs p n rows) : Vcs p n (mRed p n rows) := (rRun_ok hP.pos h n).f
theorem red_len {p : Int} {n : Nat} {rows : List (List Int)} (hP : PR p) (h : Vcs p n rows) : (mRed p n rows).length ≤ rows.length := by
  have := (rRun_ok hP.pos h n).len
  show (rRun p rows n).found.length ≤ _
  omega
theorem red_in {p : Int} {n : Nat} {rows : List (List Int)} (hP : PR p) (h : Vcs p n rows) (v : List Int) : In p n (mRed p n rows) v ↔ In p n rows v := by
  have hp := hP.pos
  rw [← rRun_in hP h v n]
  have ho := rRun_ok hp h n
  have hf := rRun_rf hP h n
  refine ⟨fun hv => hv.sub fun x hx => List.mem_append_right _ hx, fun hv => hv.mono hp ho.f fun r hr => ?_⟩
  rcases List.mem_append.mp hr with hr | hr
  · have hrv := ho.l r hr
    rw [vext0 hrv.1 (Vc.zer hp : Vc p n _).1 fun k hk => by rw [hf.left0 r hr k hk, cf_zer]]
    exact .zero
  · exact In.row hp ho.f hP.two hr
/-! ### the rest of a row -/
theorem mRest_cons (p : Int) (r : List Int) (l : List (List Int)) (v : List Int) : mRest p (r :: l) v = mRest p l (mClr p (mPv r) r v) := rfl
theorem mRest_app (p : Int) (l m : List (List Int)) (v : List Int) : mRest p (l ++ m) v = mRest p m (mRest p l v) := by
  unfold mRest
  rw [List.foldl_append]
theorem rest_vc {p : Int} {n : Nat} (hp : 0 < p) : ∀ {l : List (List Int)} {v : List Int}, Vcs p n l → Vc p n v → Vc p n (mRest p l v)
  | [], _, _, h => h
  | r :: l, v, hl, h => rest_vc hp (l := l) (fun x hx => hl x (List.mem_cons_of_mem _ hx)) (Vc.clr hp (hl r List.mem_cons_self).1 h)
theorem clr_sum {p : Int} {n j : Nat} (hp : 0 < p) {h v w : List Int} {a : Int} (hh : Vc p n h) (hv : Vc p n v) (hw : Vc p n w) : mClr p j h (mAdd p v (mScl p a w)) = mAdd p (mClr p j h v) (mScl p a (mClr p j h w)) := by
  have hs := hv.add' hp (hw.scl' (a := a) hp)
  have h1 : Vc p n (mClr p j h v) := Vc.clr hp hh.1 hv
  have h2 : Vc p n (mClr p j h w) := Vc.clr hp hh.1 hw
  refine vext hp (Vc.clr hp hh.1 hs) (h1.add' hp (h2.scl' hp)) fun k => ?_
  have a1 : ∀ k, cf (mAdd p v (mScl p a w)) k = (cf v k + cf w k * a) % p := fun k => by rw [cf_add (by rw [scl_len, hv.1, hw.1]), cf_scl, Int.add_emod_emod]
  have a2 : cf (mAdd p (mClr p j h v) (mScl p a (mClr p j h w))) k = (cf (mClr p j h v) k + cf (mClr p j h w) k * a) % p := by rw [cf_add (by rw [scl_len, h1.1, h2.1]), cf_scl, Int.add_emod_emod]
  rw [cf_clr hp hs hh.1, a1, a1, a2, cf_clr hp hv hh.1, cf_clr hp hw hh.1]
  simp only [Int.emod_emod, Int.emod_add_emod, Int.add_emod_emod, Int.emod_sub_emod, Int.sub_emod_emod, em_l, em_sl, em_al]
  congr 1
  grind
theorem rest_sum {p : Int} {n : Nat} (hp : 0 < p) {a : Int} : ∀ {l : List (List Int)} {v w : List Int}, Vcs p n l → Vc p n v → Vc p n w → mRest p l (mAdd p v (mScl p a w)) = mAdd p (mRest p l v) (mScl p a (mRest p l w))
  | [], _, _, _, _, _ => rfl
  | r :: l, v, w, hl, hv, hw => by
    have hr := hl r List.mem_cons_self
    rw [mRest_cons, clr_sum hp hr hv hw]
    exact rest_sum hp (l := l) (fun x hx => hl x (List.mem_cons_of_mem _ hx)) (Vc.clr hp hr.1 hv) (Vc.clr hp hr.1 hw)
/-- nothing is cleared where the pivots hold 0 -/
theorem rest_id {p : Int} : ∀ {l : List (List Int)} {v : List Int}, (∀ r ∈ l, cf v (mPv r) = 0) → mRest p l v = v
  | [], _, _ => rfl
  | r :: l, v, h => by
    rw [mRest_cons, show mClr p (mPv r) r v = v by unfold mClr; rw [if_pos (show v.getD (mPv r) 0 = 0 from h r List.mem_cons_self)]]
    exact rest_id fun x hx => h x (List.mem_cons_of_mem _ hx)
theorem rest_zer {p : Int} {n : Nat} (l : List (List Int)) : mRest p l (zer n) = zer n := rest_id fun r _ => cf_zer n _
/-- a place where all rows of l hold 0 stays -/
theorem rest_at {p : Int} {n q : Nat} (hp : 0 < p) : ∀ {l : List (List Int)} {v : List Int}, Vcs p n l → Vc p n v → (∀ r ∈ l, cf r q = 0) → cf (mRest p l v) q = cf v q
  | [], _, _, _, _ => rfl
  | r :: l, v, hl, hv, h => by
    have hr := hl r List.mem_cons_self
    rw [mRest_cons, rest_at hp (l := l) (fun x hx => hl x (List.mem_cons_of_mem _ hx)) (Vc.clr hp hr.1 hv) fun x hx => h x (List.mem_cons_of_mem _ hx), cf_clr hp hv hr.1, h r List.mem_cons_self, Int.mul_zero, Int.sub_zero, hv.md hp]
section
variable {p : Int} {n : Nat} {A : List (List Int)}
theorem InForm.split (hF : InForm n A) {i : Nat} (hi : i < A.length) : A = A.take i ++ A.getD i [] :: A.drop (i + 1) := by
  rw [List.getD_eq_getElem?_getD, List.getElem?_eq_getElem hi]
  show A = A.take i ++ A[i] :: A.drop (i + 1)
  rw [List.getElem_cons_drop, List.take_append_drop]
theorem InForm.pvs (hF : InForm n A) {r : List Int} (hr : r ∈ A) : ∃ i, i < A.length ∧ A.getD i [] = r := by
  obtain ⟨i, hi, e⟩ := List.getElem_of_mem hr
  refine ⟨i, hi, ?_⟩
  rw [List.getD_eq_getElem?_getD, List.getElem?_eq_getElem hi]
  exact e
theorem InForm.off1 (hF : InForm n A) {i : Nat} (hi : i < A.length) : (∀ r ∈ A.take i, cf r (mPv (A.getD i [])) = 0) ∧ (∀ r ∈ A.drop (i + 1), cf r (mPv (A.getD i [])) = 0) ∧ ∀ r ∈ A.take i, cf (A.getD i []) (mPv r) = 0 := by
  refine ⟨fun r hr => ?_, fun r hr => ?_, fun r hr => ?_⟩
  · obtain ⟨k, hk, e⟩ := List.getElem_of_mem hr
    rw [List.length_take] at hk
    rw [List.getElem_take] at e
    have := hF.off i k hi (by omega) (by omega)
    rw [List.getD_eq_getElem?_getD (l := A) (i := k), List.getElem?_eq_getElem (by omega)] at this
    rw [← e]
    exact this
  · obtain ⟨k, hk, e⟩ := List.getElem_of_mem hr
    rw [List.length_drop] at hk
    rw [List.getElem_drop] at e
    have := hF.off i (i + 1 + k) hi (by omega) (by omega)
    rw [List.getD_eq_getElem?_getD (l := A) (i := i + 1 + k), List.getElem?_eq_getElem (by omega)] at this
    rw [← e]
    exact this
  · obtain ⟨k, hk, e⟩ := List.getElem_of_mem hr
    rw [List.length_take] at hk
    rw [List.getElem_take] at e
    have := hF.off k i (by omega) hi (by omega)
    rw [List.getD_eq_getElem?_getD (l := A) (i := k), List.getElem?_eq_getElem (by omega)] at this
    rw [← e]
    exact this
/-- the rest holds 0 at the pivots -/
theorem rest_piv (hp : 0 < p) (hF : InForm n A) (hA : Vcs p n A) {v : List Int} (hv : Vc p n v) {i : Nat} (hi : i < A.length) : cf (mRest p A v) (mPv (A.getD i [])) = 0 := by
  have e : mRest p A v = mRest p (A.drop (i + 1)) (mClr p (mPv (A.getD i [])) (A.getD i []) (mRest p (A.take i) v)) := by
    rw [← mRest_cons, ← mRest_app, ← hF.split hi]
  have hr : Vc p n (A.getD i []) := hA _ (getD_memL hi)
  have h1 : Vc p n (mRest p (A.take i) v) := rest_vc hp (fun x hx => hA x (List.mem_of_mem_take hx)) hv
  rw [e, rest_at hp (fun x hx => hA x (List.mem_of_mem_drop hx)) (Vc.clr hp hr.1 h1) (hF.off1 hi).2.1, cf_clr hp h1 hr.1, show cf (A.getD i []) (mPv (A.getD i [])) = 1 from hF.one i hi, Int.mul_one, Int.sub_self, Int.zero_emod]
/-- a row of the table has the rest 0 -/
theorem rest_row (hp : 0 < p) (hF : InForm n A) (hA : Vcs p n A) {r : List Int} (hr : r ∈ A) : mRest p A r = zer n := by
  obtain ⟨i, hi, e⟩ := hF.pvs hr
  have hrv := hA _ hr
  have e2 : mRest p A r = mRest p (A.drop (i + 1)) (mClr p (mPv r) r (mRest p (A.take i) r)) := by
    rw [← mRest_cons, ← mRest_app, ← e, ← hF.split hi]
  rw [e2, rest_id (l := A.take i) (v := r) (by rw [← e]; exact (hF.off1 hi).2.2)]
  have e3 : mClr p (mPv r) r r = zer n := by
    refine vext hp (Vc.clr hp hrv.1 hrv) (Vc.zer hp) fun k => ?_
    rw [cf_clr hp hrv hrv.1, cf_zer, Int.emod_emod, show cf r (mPv r) = 1 from e ▸ hF.one i hi, Int.one_mul, Int.sub_self]
  rw [e3, rest_zer]
theorem rest_in (hp : 0 < p) (hF : InForm n A) (hA : Vcs p n A) {v : List Int} (h : In p n A v) : mRest p A v = zer n := by
  induction h with
  | zero => exact rest_zer A
  | add a h hr ih => rw [rest_sum hp hA (h.vc hp hA) (hA _ hr), ih, rest_row hp hF hA hr, scl_zer hp, add_zer hp (Vc.zer hp)]
/-- what is taken away is a sum of the rows -/
theorem rest_diff (hP : PR p) (hA : Vcs p n A) : ∀ {l : List (List Int)} {v : List Int}, (∀ r ∈ l, r ∈ A) → Vc p n v → ∃ u, In p n A u ∧ mRest p l v = mAdd p v u
  | [], v, _, hv => ⟨zer n, .zero, (add_zer hP.pos hv).symm⟩
  | r :: l, v, hl, hv => by
    have hp := hP.pos
    have hrA := hl r List.mem_cons_self
    have hr := hA r hrA
    obtain ⟨u, hu, e⟩ := rest_diff hP hA (l := l) (v := mClr p (mPv r) r v) (fun x hx => hl x (List.mem_cons_of_mem _ hx)) (Vc.clr hp hr.1 hv)
    have hs : In p n A (mScl p (-(cf v (mPv r))) r) := (In.row hp hA hP.two hrA).scl hp hA
    refine ⟨mAdd p (mScl p (-(cf v (mPv r))) r) u, hs.sum hp hA hu, ?_⟩
    rw [mRest_cons, e, clr_add hp hr hv, add_assoc hp hv (hr.scl' hp) (hu.vc hp hA)]
theorem rest_minus (hP : PR p) (hA : Vcs p n A) {v : List Int} (hv : Vc p n v) : In p n A (mAdd p v (mScl p (-1) (mRest p A v))) := by
  have hp := hP.pos
  obtain ⟨u, hu, e⟩ := rest_diff hP hA (l := A) (fun r h => h) hv
  have huv := hu.vc hp hA
  have e2 : mAdd p v (mScl p (-1) (mRest p A v)) = mScl p (-1) u := by
    rw [e]
    refine vext hp (hv.add' hp ((hv.add' hp huv).scl' hp)) (huv.scl' hp) fun k => ?_
    rw [cf_add (by rw [scl_len, (hv.add' hp huv).1, hv.1]), cf_scl, cf_scl, cf_add (by rw [hv.1, huv.1])]
    simp only [Int.emod_emod, Int.emod_add_emod, Int.add_emod_emod, em_l]
    congr 1
    grind
  rw [e2]
  exact hu.scl hp hA
theorem rest_iff (hP : PR p) (hF : InForm n A) (hA : Vcs p n A) {v : List Int} (hv : Vc p n v) : mRest p A v = zer n ↔ In p n A v := by
  refine ⟨fun e => ?_, rest_in hP.pos hF hA⟩
  have h := rest_minus hP hA hv
  rw [e, scl_zer hP.pos, add_zer hP.pos hv] at h
  exact h
theorem in_zero (hp : 0 < p) (hF : InForm n A) (hA : Vcs p n A) {v : List Int} (h : In p n A v) (h0 : ∀ r ∈ A, cf v (mPv r) = 0) : v = zer n := by
  rw [← rest_in hp hF hA h, rest_id h0]
/-- a sum of the rows begins at a pivot -/
theorem rest_low (hp : 0 < p) {q : Nat} : ∀ {l : List (List Int)} {v : List Int}, Vcs p n l → Vc p n v → (∀ k, k < q → cf v k = 0) → (∀ r ∈ l, nz r ≠ [] ∧ mPv r ≠ q) → cf (mRest p l v) q = cf v q
  | [], _, _, _, _, _ => rfl
  | r :: l, v, hl, hv, h0, h => by
    have hr := hl r List.mem_cons_self
    obtain ⟨h1, h2⟩ := h r List.mem_cons_self
    have hc : ∀ k, k ≤ q → cf (mClr p (mPv r) r v) k = cf v k := fun k hk => by
      rw [cf_clr hp hv hr.1]
      by_cases c : mPv r < q
      · rw [h0 _ c, Int.zero_mul, Int.sub_zero, hv.md hp]
      · have : cf r k = 0 := by
          refine Decidable.byContradiction fun hne => ?_
          have hkm : k < mPv r := by omega
          have hk2 : k ∈ nz r := by
            unfold nz
            exact List.mem_filter.mpr ⟨List.mem_range.mpr (Nat.lt_of_not_le fun z => hne (cf_ge z)), by rw [cf_def]; simpa using hne⟩
          have hs : (nz r).Pairwise (· < ·) := by
            unfold nz
            exact List.Pairwise.filter _ List.pairwise_lt_range
          unfold mPv at hkm
          cases e : nz r with
          | nil => exact h1 e
          | cons a t =>
            rw [e] at hk2 hs hkm
            rcases List.mem_cons.mp hk2 with h | h
            · exact absurd hkm (by rw [h]; exact Nat.lt_irrefl _)
            · exact absurd ((List.pairwise_cons.mp hs).1 k h) (Nat.lt_asymm hkm)
        rw [this, Int.mul_zero, Int.sub_zero, hv.md hp]
    rw [mRest_cons, rest_low hp (l := l) (fun x hx => hl x (List.mem_cons_of_mem _ hx)) (Vc.clr hp hr.1 hv) (fun k hk => by rw [hc k (by omega)]; exact h0 k hk) fun x hx => h x (List.mem_cons_of_mem _ hx), hc q (Nat.le_refl q)]
theorem nz_low {v : List Int} (hne : nz v ≠ []) : (∀ k, k < mPv v → cf v k = 0) ∧ cf v (mPv v) ≠ 0 := by
  refine ⟨fun k hk => Decidable.byContradiction fun hn => ?_, (nz_mem (mPv_mem hne)).2⟩
  have hk2 : k ∈ nz v := by
    unfold nz
    exact List.mem_filter.mpr ⟨List.mem_range.mpr (Nat.lt_of_not_le fun z => hn (cf_ge z)), by rw [cf_def]; simpa using hn⟩
  have hs : (nz v).Pairwise (· < ·) := by
    unfold nz
    exact List.Pairwise.filter _ List.pairwise_lt_range
  unfold mPv at hk
  cases e : nz v with
  | nil => exact hne e
  | cons a t =>
    rw [e] at hk2 hs hk
    rcases List.mem_cons.mp hk2 with h | h
    · exact absurd hk (by rw [h]; exact Nat.lt_irrefl _)
    · exact absurd ((List.pairwise_cons.mp hs).1 k h) (Nat.lt_asymm hk)
theorem in_lead (hp : 0 < p) (hF : InForm n A) (hA : Vcs p n A) {v : List Int} (h : In p n A v) (hne : nz v ≠ []) : ∃ r ∈ A, mPv r = mPv v := by
  refine Decidable.byContradiction fun c => ?_
  have hv := h.vc hp hA
  have hl := nz_low hne
  have h1 := rest_low hp (q := mPv v) hA hv hl.1 fun r hr => ⟨by
    obtain ⟨i, hi, e⟩ := hF.pvs hr
    rw [← e]
    exact hF.ne i hi, fun e => c ⟨r, hr, e⟩⟩
  rw [rest_in hp hF hA h, cf_zer] at h1
  exact hl.2 h1.symm
end
theorem sorted_eq : ∀ {l m : List Nat}, l.Pairwise (· < ·) → m.Pairwise (· < ·) → (∀ x, x ∈ l ↔ x ∈ m) → l = m
  | [], [], _, _, _ => rfl
  | [], b :: m, _, _, h => absurd ((h b).mpr List.mem_cons_self) (by simp)
  | a :: l, [], _, _, h => absurd ((h a).mp List.mem_cons_self) (by simp)
  | a :: l, b :: m, hl, hm, h => by
    rw [List.pairwise_cons] at hl hm
    have e : a = b := by
      rcases List.mem_cons.mp ((h a).mp List.mem_cons_self) with e | e
      · exact e
      · rcases List.mem_cons.mp ((h b).mpr List.mem_cons_self) with e2 | e2
        · exact e2.symm
        · exact absurd (hm.1 a e) (Nat.lt_asymm (hl.1 b e2))
    subst e
    rw [sorted_eq hl.2 hm.2 fun x => ⟨fun hx => ?_, fun hx => ?_⟩]
    · rcases List.mem_cons.mp ((h x).mp (List.mem_cons_of_mem _ hx)) with e | e
      · exact absurd (hl.1 x hx) (by rw [e]; exact Nat.lt_irrefl _)
      · exact e
    · rcases List.mem_cons.mp ((h x).mpr (List.mem_cons_of_mem _ hx)) with e | e
      · exact absurd (hm.1 x hx) (by rw [e]; exact Nat.lt_irrefl _)
      · exact e
theorem InForm.sorted {n : Nat} {A : List (List Int)} (hF : InForm n A) : (A.map mPv).Pairwise (· < ·) := by
  rw [List.pairwise_iff_getElem]
  intro i j hi hj hij
  rw [List.length_map] at hi hj
  have := hF.inc i j hij hj
  rw [List.getD_eq_getElem?_getD, List.getElem?_eq_getElem hi, List.getD_eq_getElem?_getD, List.getElem?_eq_getElem hj] at this
  rw [List.getElem_map, List.getElem_map]
  exact this
/-- two reduced tables with the same sums are the same -/
theorem form_uni {p : Int} {n : Nat} (hP : PR p) {A B : List (List Int)} (fA : InForm n A) (fB : InForm n B) (hA : Vcs p n A) (hB : Vcs p n B) (h : ∀ v, In p n A v ↔ In p n B v) : A = B := by
  have hp := hP.pos
  have sub : ∀ {A B : List (List Int)}, InForm n A → InForm n B → Vcs p n A → Vcs p n B → (∀ v, In p n A v ↔ In p n B v) → ∀ x, x ∈ A.map mPv → x ∈ B.map mPv := by
    intro A B fA fB hA hB h x hx
    obtain ⟨r, hr, rfl⟩ := List.mem_map.mp hx
    obtain ⟨i, hi, e⟩ := fA.pvs hr
    obtain ⟨s, hs, e2⟩ := in_lead hp fB hB ((h r).mp (In.row hp hA hP.two hr)) (by rw [← e]; exact fA.ne i hi)
    exact List.mem_map.mpr ⟨s, hs, e2⟩
  have e := sorted_eq fA.sorted fB.sorted fun x => ⟨sub fA fB hA hB h x, sub fB fA hB hA (fun v => (h v).symm) x⟩
  have el : A.length = B.length := by
    have := congrArg List.length e
    rwa [List.length_map, List.length_map] at this
  have ep : ∀ i, i < A.length → mPv (A.getD i []) = mPv (B.getD i []) := fun i hi => by
    have := congrArg (fun l => l[i]?) e
    rw [List.getElem?_map, List.getElem?_map, List.getElem?_eq_getElem hi, List.getElem?_eq_getElem (by omega : i < B.length)] at this
    rw [List.getD_eq_getElem?_getD, List.getElem?_eq_getElem hi, List.getD_eq_getElem?_getD, List.getElem?_eq_getElem (by omega : i < B.length)]
    exact Option.some.inj this
  refine List.ext_getElem el fun i h1 h2 => ?_
  have ha := hA _ (getD_memL h1)
  have hb := hB _ (getD_memL h2)
  have hd : In p n A (mAdd p (A.getD i []) (mScl p (-1) (B.getD i []))) := (In.row hp hA hP.two (getD_memL h1)).sum hp hA (((h _).mpr (In.row hp hB hP.two (getD_memL h2))).scl hp hA)
  have hz := in_zero hp fA hA hd fun r hr => by
    obtain ⟨k, hk, e⟩ := fA.pvs hr
    rw [cf_add (by rw [scl_len, ha.1, hb.1]), cf_scl, ← e]
    by_cases c : k = i
    · subst c
      rw [show cf (A.getD k []) (mPv (A.getD k [])) = 1 from fA.one k hk, ep k hk, show cf (B.getD k []) (mPv (B.getD k [])) = 1 from fB.one k h2, Int.add_emod_emod]
      simp
    · rw [show cf (A.getD i []) (mPv (A.getD k [])) = 0 from fA.off k i hk h1 (fun z => c z.symm), ep k hk, show cf (B.getD i []) (mPv (B.getD k [])) = 0 from fB.off k i (by omega) h2 (fun z => c z.symm)]
      simp
  have e3 : A.getD i [] = B.getD i [] := by
    refine vext hp ha hb fun k => ?_
    have := congrArg (fun z => cf z k) hz
    rw [cf_zer, cf_add (by rw [scl_len, ha.1, hb.1]), cf_scl, Int.add_emod_emod] at this
    rw [show cf (A.getD i []) k = (cf (A.getD i []) k + cf (B.getD i []) k * -1) + cf (B.getD i []) k by grind, ← Int.emod_add_emod, this, Int.zero_add]
  rw [List.getD_eq_getElem?_getD, List.getElem?_eq_getElem h1, List.getD_eq_getElem?_getD, List.getElem?_eq_getElem h2] at e3
  exact e3
theorem red_uni {p : Int} {n : Nat} (hP : PR p) {A B : List (List Int)} (hA : Vcs p n A) (hB : Vcs p n B) (h : ∀ v, In p n A v ↔ In p n B v) : mRed p n A = mRed p n B ∧ mPiv p n A = mPiv p n B := by
  have e : mRed p n A = mRed p n B := form_uni hP (red_form hP hA).1 (red_form hP hB).1 (red_vcs hP hA) (red_vcs hP hB) fun v => by rw [red_in hP hA, red_in hP hB, h]
  exact ⟨e, by rw [(red_form hP hA).2, (red_form hP hB).2, e]⟩
/-- the table's rows in the other order -/
theorem red_rev {p : Int} {n : Nat} (hP : PR p) {rows : List (List Int)} (h : Vcs p n rows) : mRed p n (mRed p n rows).reverse = mRed p n rows ∧ mPiv p n (mRed p n rows).reverse = mPiv p n rows := by
  refine red_uni hP (fun x hx => red_vcs hP h x (List.mem_reverse.mp hx)) h fun v => ?_
  rw [← red_in hP h]
  exact ⟨fun hv => hv.sub fun x hx => List.mem_reverse.mp hx, fun hv => hv.sub fun x hx => List.mem_reverse.mpr hx⟩
theorem red_nil (p : Int) (n : Nat) : mRed p n [] = [] ∧ mPiv p n [] = [] := by
  have key : ∀ k, rRun p [] k = ⟨[], [], []⟩ := by
    intro k
    induction k with
    | zero => rfl
    | succ k ih => rw [rRun_succ, ih]; rfl
  unfold mRed mPiv
  rw [key]
  exact ⟨rfl, rfl⟩
end Dl
set_option Elab.async false
set_option linter.all false
set_option maxHeartbeats 2000000
/-! LinKer: counting spans, all rows, products of rows, the kernel. No program in sight. -/
namespace Dl
open PySem L2
/-! ### counting -/
theorem nodup_sub_len {α : Type} [DecidableEq α] : ∀ {l m : List α}, l.Nodup → (∀ x ∈ l, x ∈ m) → l.length ≤ m.length
  | [], _, _, _ => Nat.zero_le _
  | a :: l, m, h, hs => by
    rw [List.nodup_cons] at h
    have ha := hs a List.mem_cons_self
    have h2 := nodup_sub_len (l := l) (m := m.erase a) h.2 fun x hx => (List.mem_erase_of_ne fun e => h.1 (by rw [← e]; exact hx)).mpr (hs x (List.mem_cons_of_mem _ hx))
    rw [List.length_erase_of_mem ha] at h2
    have := List.length_pos_of_mem ha
    rw [List.length_cons]
    omega
theorem nodup_all {α : Type} [DecidableEq α] {l m : List α} (h : l.Nodup) (hs : ∀ x ∈ l, x ∈ m) (hl : m.length ≤ l.length) : ∀ x ∈ m, x ∈ l := by
  intro x hx
  refine Decidable.byContradiction fun c => ?_
  have := nodup_sub_len (l := x :: l) (m := m) (List.nodup_cons.mpr ⟨c, h⟩) fun y hy => by
    rcases List.mem_cons.mp hy with e | e
    · rw [e]; exact hx
    · exact hs y e
  rw [List.length_cons] at this
  omega
section
variable {p : Int} {n : Nat}
theorem spanL_count_le (hP : PR p) {A B : List (List Int)} (hA : Vcs p n A) (hB : Vcs p n B) (h : ∀ v, In p n A v → In p n B v) : (spanL p n A).length ≤ (spanL p n B).length :=
  nodup_sub_len (nodup_spanL hP hA) fun x hx => (mem_spanL hP hB x).mpr (h x ((mem_spanL hP hA x).mp hx))
theorem spanL_count (hP : PR p) {A B : List (List Int)} (hA : Vcs p n A) (hB : Vcs p n B) (h : ∀ v, In p n A v ↔ In p n B v) : (spanL p n A).length = (spanL p n B).length :=
  Nat.le_antisymm (spanL_count_le hP hA hB fun v hv => (h v).mp hv) (spanL_count_le hP hB hA fun v hv => (h v).mpr hv)
/-- each row has a place of its own -/
def Priv (A : List (List Int)) (pos : Nat → Nat) : Prop := ∀ i, i < A.length → cf (A.getD i []) (pos i) ≠ 0 ∧ ∀ k, k < A.length → k ≠ i → cf (A.getD k []) (pos i) = 0
theorem in_at0 (hp : 0 < p) {A : List (List Int)} (hA : Vcs p n A) {q : Nat} (h : ∀ r ∈ A, cf r q = 0) {v : List Int} (hv : In p n A v) : cf v q = 0 := by
  induction hv with
  | zero => exact cf_zer n q
  | add a hw hr ih => rw [cf_add (by rw [scl_len, (hw.vc hp hA).1, (hA _ hr).1]), cf_scl, ih, h _ hr, Int.zero_mul, Int.zero_emod, Int.add_zero, Int.zero_emod]
theorem spanL_priv (hP : PR p) {A : List (List Int)} {pos : Nat → Nat} (hA : Vcs p n A) (h : Priv A pos) : ∀ i, i ≤ A.length → (spanL p n (A.take i)).length = p.toNat ^ i
  | 0, _ => by rw [List.take_zero]; rfl
  | i + 1, hi => by
    have hp := hP.pos
    have ih := spanL_priv hP hA h i (by omega)
    have hT : Vcs p n (A.take i) := fun x hx => hA x (List.mem_of_mem_take hx)
    have hr : Vc p n A[i] := hA _ (List.getElem_mem (by omega))
    have hg : A.getD i [] = A[i] := by
      rw [List.getD_eq_getElem?_getD, List.getElem?_eq_getElem (by omega : i < A.length)]
      rfl
    have c : A[i] ∉ spanL p n (A.take i) := by
      rw [mem_spanL hP hT]
      intro hin
      have h1 := (h i (by omega)).1
      rw [hg] at h1
      refine h1 (in_at0 hp hT (fun r hr => ?_) hin)
      obtain ⟨k, hk, e⟩ := List.getElem_of_mem hr
      rw [List.length_take] at hk
      rw [List.getElem_take] at e
      have h2 := (h i (by omega)).2 k (by omega) (by omega)
      rw [List.getD_eq_getElem?_getD (l := A) (i := k), List.getElem?_eq_getElem (by omega)] at h2
      rw [← e]
      exact h2
    rw [List.take_add_one, List.getElem?_eq_getElem (by omega : i < A.length), Option.toList_some, spanL_snoc]
    unfold spStep
    rw [if_neg c, flatMap_len _ p.toNat fun w => by rw [List.length_map, List.length_range], ih, Nat.pow_succ]
theorem count_priv (hP : PR p) {A : List (List Int)} {pos : Nat → Nat} (hA : Vcs p n A) (h : Priv A pos) : (spanL p n A).length = p.toNat ^ A.length := by
  have := spanL_priv hP hA h A.length (Nat.le_refl _)
  rwa [List.take_length] at this
theorem InForm.priv {A : List (List Int)} (hF : InForm n A) : Priv A fun i => mPv (A.getD i []) := fun i hi => ⟨by rw [show cf (A.getD i []) (mPv (A.getD i [])) = 1 from hF.one i hi]; decide, fun k hk hne => hF.off i k hi hk hne⟩
theorem pow_inj (hP : PR p) {a b : Nat} (h : p.toNat ^ a = p.toNat ^ b) : a = b := by
  have h2 : 1 < p.toNat := by have := hP.two; omega
  rcases Nat.lt_trichotomy a b with c | c | c
  · have := Nat.pow_lt_pow_right h2 c
    omega
  · exact c
  · have := Nat.pow_lt_pow_right h2 c
    omega
/-- the number of the rows of the reduced table -/
theorem count_red (hP : PR p) {rows : List (List Int)} (h : Vcs p n rows) : (spanL p n rows).length = p.toNat ^ (mRed p n rows).length := by
  rw [← count_priv hP (red_vcs hP h) (red_form hP h).1.priv]
  exact spanL_count hP h (red_vcs hP h) fun v => (red_in hP h v).symm
theorem rank_priv (hP : PR p) {A : List (List Int)} {pos : Nat → Nat} (hA : Vcs p n A) (h : Priv A pos) : (mRed p n A).length = A.length := pow_inj hP (by rw [← count_red hP hA, count_priv hP hA h])
theorem rank_le (hP : PR p) {A B : List (List Int)} (hA : Vcs p n A) (hB : Vcs p n B) (h : ∀ v, In p n A v → In p n B v) : (mRed p n A).length ≤ (mRed p n B).length := by
  have := spanL_count_le hP hA hB h
  rw [count_red hP hA, count_red hP hB] at this
  exact (Nat.pow_le_pow_iff_right (by have := hP.two; omega : 1 < p.toNat)).mp this
/-- a part with as many rows is the whole -/
theorem in_whole (hP : PR p) {A B : List (List Int)} (hA : Vcs p n A) (hB : Vcs p n B) (h : ∀ v, In p n A v → In p n B v) (hl : (mRed p n B).length ≤ (mRed p n A).length) (v : List Int) (hv : In p n B v) : In p n A v := by
  rw [← mem_spanL hP hB] at hv
  rw [← mem_spanL hP hA]
  refine nodup_all (nodup_spanL hP hA) (fun x hx => (mem_spanL hP hB x).mpr (h x ((mem_spanL hP hA x).mp hx))) ?_ v hv
  rw [count_red hP hA, count_red hP hB]
  exact Nat.pow_le_pow_right (by have := hP.two; omega) hl
end
/-! ### all rows -/
def mAll (p : Int) : Nat → List (List Int)
  | 0 => [[]]
  | n + 1 => (mAll p n).flatMap fun w => (List.range p.toNat).map fun (a : Nat) => w ++ [(a : Int)]
theorem mAll_len (p : Int) : ∀ n, (mAll p n).length = p.toNat ^ n
  | 0 => rfl
  | n + 1 => by
    unfold mAll
    rw [flatMap_len _ p.toNat fun w => by rw [List.length_map, List.length_range], mAll_len p n, Nat.pow_succ]
theorem mem_mAll {p : Int} : ∀ {n : Nat} {v : List Int}, v ∈ mAll p n ↔ Vc p n v
  | 0, v => by
    unfold mAll
    rw [List.mem_singleton]
    exact ⟨fun e => by rw [e]; exact ⟨rfl, fun x hx => absurd hx (by simp)⟩, fun h => List.eq_nil_of_length_eq_zero h.1⟩
  | n + 1, v => by
    unfold mAll
    rw [List.mem_flatMap]
    constructor
    · rintro ⟨w, hw, hv⟩
      obtain ⟨a, ha, rfl⟩ := List.mem_map.mp hv
      have ha' := List.mem_range.mp ha
      have hw' := mem_mAll.mp hw
      refine ⟨by rw [List.length_append, hw'.1]; rfl, fun x hx => ?_⟩
      rcases List.mem_append.mp hx with h | h
      · exact hw'.2 x h
      · rw [List.mem_singleton.mp h]
        omega
    · intro h
      have hne : v ≠ [] := fun e => by rw [e] at h; cases h.1
      have e := List.dropLast_concat_getLast hne
      have hl := h.2 _ (List.getLast_mem hne)
      refine ⟨v.dropLast, mem_mAll.mpr ⟨by rw [List.length_dropLast, h.1]; rfl, fun x hx => h.2 x ((List.dropLast_sublist v).subset hx)⟩, List.mem_map.mpr ⟨(v.getLast hne).toNat, List.mem_range.mpr (by omega), ?_⟩⟩
      rw [Int.toNat_of_nonneg hl.1]
      exact e
theorem lt_app {a b : Int} : ∀ {v w : List Int}, v.length = w.length → v < w → v ++ [a] < w ++ [b]
  | [], [], _, h => absurd h (List.lt_irrefl _)
  | [], _ :: _, h, _ => by simp at h
  | _ :: _, [], h, _ => by simp at h
  | x :: v, y :: w, h, hlt => by
    rw [List.cons_append, List.cons_append]
    rcases List.cons_lt_cons_iff.mp hlt with h1 | ⟨h1, h2⟩
    · exact List.cons_lt_cons_iff.mpr (.inl h1)
    · exact List.cons_lt_cons_iff.mpr (.inr ⟨h1, lt_app (by simpa using h) h2⟩)
theorem lt_app2 {a b : Int} (h : a < b) : ∀ v : List Int, v ++ [a] < v ++ [b]
  | [] => List.cons_lt_cons_iff.mpr (.inl h)
  | x :: v => List.cons_lt_cons_iff.mpr (.inr ⟨rfl, lt_app2 h v⟩)
theorem mAll_sorted {p : Int} : ∀ n, (mAll p n).Pairwise (· < ·)
  | 0 => by unfold mAll; exact List.pairwise_singleton _ _
  | n + 1 => by
    unfold mAll
    rw [List.pairwise_flatMap]
    refine ⟨fun w hw => ?_, ?_⟩
    · rw [List.pairwise_map]
      exact List.Pairwise.imp (fun h => lt_app2 (by omega) w) List.pairwise_lt_range
    · refine List.Pairwise.imp_of_mem (fun {v w} hv hw h x hx y hy => ?_) (mAll_sorted n)
      obtain ⟨a, _, rfl⟩ := List.mem_map.mp hx
      obtain ⟨b, _, rfl⟩ := List.mem_map.mp hy
      exact lt_app (by rw [(mem_mAll.mp hv).1, (mem_mAll.mp hw).1]) h
/-- what of all rows lies in a span -/
theorem mSpan_filter {p : Int} {n : Nat} (hP : PR p) {A : List (List Int)} (hA : Vcs p n A) {b : List Int → Bool} (h : ∀ v, Vc p n v → (b v = true ↔ In p n A v)) : mSpan p n A = (mAll p n).filter b := by
  have tr : ∀ a b c : List Int, SortR.leR a b = true → SortR.leR b c = true → SortR.leR a c = true := fun a b c h1 h2 => (leR_iff _ _).mpr (List.le_trans ((leR_iff _ _).mp h1) ((leR_iff _ _).mp h2))
  have to : ∀ a b : List Int, (SortR.leR a b || SortR.leR b a) = true := fun a b => by
    rcases List.le_total a b with h | h
    · rw [(leR_iff _ _).mpr h]; rfl
    · rw [(leR_iff _ _).mpr h, Bool.or_true]
  unfold mSpan
  have hs := List.Pairwise.filter b (mAll_sorted (p := p) n)
  refine List.Perm.eq_of_pairwise (le := fun a b => SortR.leR a b = true) (fun a b _ _ h1 h2 => List.le_antisymm ((leR_iff _ _).mp h1) ((leR_iff _ _).mp h2)) (List.pairwise_mergeSort tr to _) (hs.imp fun h => (leR_iff _ _).mpr (List.le_of_lt h)) ?_
  refine (List.mergeSort_perm _ _).trans ?_
  have hn : ((mAll p n).filter b).Nodup := List.Pairwise.imp (fun {x y} h (e : x = y) => by
    subst e
    exact List.lt_irrefl _ h) hs
  rw [List.perm_ext_iff_of_nodup (nodup_spanL hP hA) hn]
  intro v
  rw [mem_spanL hP hA, List.mem_filter, mem_mAll]
  exact ⟨fun hv => ⟨hv.vc hP.pos hA, (h v (hv.vc hP.pos hA)).mpr hv⟩, fun hv => (h v hv.1).mp hv.2⟩
/-! ### sums -/
def sm (f : Nat → Int) : Nat → Int
  | 0 => 0
  | n + 1 => sm f n + f n
theorem sm_congr {f g : Nat → Int} : ∀ {n : Nat}, (∀ k, k < n → f k = g k) → sm f n = sm g n
  | 0, _ => rfl
  | n + 1, h => by
    show sm f n + f n = sm g n + g n
    rw [sm_congr fun k hk => h k (by omega), h n (by omega)]
theorem sm_add (f g : Nat → Int) : ∀ n, sm (fun k => f k + g k) n = sm f n + sm g n
  | 0 => rfl
  | n + 1 => by
    show sm _ n + (f n + g n) = (sm f n + f n) + (sm g n + g n)
    rw [sm_add f g n]
    omega
theorem sm_mul (a : Int) (f : Nat → Int) : ∀ n, sm (fun k => a * f k) n = a * sm f n
  | 0 => (Int.mul_zero a).symm
  | n + 1 => by
    show sm _ n + a * f n = a * (sm f n + f n)
    rw [sm_mul a f n, Int.mul_add]
theorem sm_zero : ∀ {f : Nat → Int} {n : Nat}, (∀ k, k < n → f k = 0) → sm f n = 0
  | _, 0, _ => rfl
  | f, n + 1, h => by
    show sm f n + f n = 0
    rw [sm_zero fun k hk => h k (by omega), h n (by omega)]
    rfl
theorem sm_mod {p : Int} {f g : Nat → Int} : ∀ {n : Nat}, (∀ k, k < n → f k % p = g k % p) → sm f n % p = sm g n % p
  | 0, _ => rfl
  | n + 1, h => by
    show (sm f n + f n) % p = (sm g n + g n) % p
    rw [Int.add_emod, sm_mod fun k hk => h k (by omega), h n (by omega), ← Int.add_emod]
theorem sm_one {f : Nat → Int} {a : Nat} : ∀ {n : Nat}, a < n → (∀ k, k < n → k ≠ a → f k = 0) → sm f n = f a
  | 0, h, _ => absurd h (Nat.not_lt_zero _)
  | n + 1, h, h0 => by
    show sm f n + f n = f a
    by_cases c : a = n
    · subst c
      rw [sm_zero fun k hk => h0 k (by omega) (by omega), Int.zero_add]
    · rw [sm_one (by omega) fun k hk hne => h0 k (by omega) hne, h0 n (by omega) (by omega), Int.add_zero]
theorem sm_two {f : Nat → Int} {a b : Nat} : ∀ {n : Nat}, a < n → b < n → a ≠ b → (∀ k, k < n → k ≠ a → k ≠ b → f k = 0) → sm f n = f a + f b
  | 0, h, _, _, _ => absurd h (Nat.not_lt_zero _)
  | n + 1, ha, hb, hab, h0 => by
    show sm f n + f n = f a + f b
    by_cases c : a = n
    · subst c
      rw [sm_one (a := b) (by omega) fun k hk hne => h0 k (by omega) (by omega) hne, Int.add_comm]
    · by_cases d : b = n
      · subst d
        rw [sm_one (a := a) (by omega) fun k hk hne => h0 k (by omega) hne (by omega)]
      · rw [sm_two (by omega) (by omega) hab fun k hk h1 h2 => h0 k (by omega) h1 h2, h0 n (by omega) (by omega) (by omega), Int.add_zero]
theorem sm_list (f : Nat → Int) : ∀ n, ((List.range n).map f).sum = sm f n
  | 0 => rfl
  | n + 1 => by
    rw [List.range_succ, List.map_append, List.sum_append, sm_list f n]
    show sm f n + (f n + 0) = sm f n + f n
    rw [Int.add_zero]
/-! ### products of rows -/
def mDot (p : Int) (v w : List Int) : Int := (((List.range v.length).map fun k => cf v k * cf w k).sum) % p
theorem mDot_sm (p : Int) (v w : List Int) : mDot p v w = sm (fun k => cf v k * cf w k) v.length % p := by
  unfold mDot
  rw [sm_list]
section
variable {p : Int} {n : Nat}
theorem dot_comm {v w : List Int} (h : v.length = w.length) : mDot p v w = mDot p w v := by
  rw [mDot_sm, mDot_sm, h, sm_congr fun k _ => Int.mul_comm _ _]
theorem dot_add (hp : 0 < p) {v w r : List Int} {a : Int} (hv : Vc p n v) (hw : Vc p n w) (hr : r.length = n) : mDot p r (mAdd p v (mScl p a w)) = (mDot p r v + a * mDot p r w) % p := by
  rw [mDot_sm, mDot_sm, mDot_sm, Int.emod_add_emod, em_ar, ← sm_mul, ← sm_add]
  refine sm_mod fun k hk => ?_
  rw [cf_add (by rw [scl_len, hv.1, hw.1]), cf_scl, Int.add_emod_emod, em_r]
  congr 1
  grind
theorem dot_zer {r : List Int} : mDot p r (zer n) = 0 := by
  rw [mDot_sm, sm_zero fun k _ => by rw [cf_zer, Int.mul_zero], Int.zero_emod]
def InKer (p : Int) (n : Nat) (A : List (List Int)) (v : List Int) : Prop := Vc p n v ∧ ∀ r ∈ A, mDot p r v = 0
theorem InKer.add (hp : 0 < p) {A : List (List Int)} (hA : Vcs p n A) {v w : List Int} {a : Int} (hv : InKer p n A v) (hw : InKer p n A w) : InKer p n A (mAdd p v (mScl p a w)) :=
  ⟨hv.1.add' hp (hw.1.scl' hp), fun r hr => by rw [dot_add hp hv.1 hw.1 (hA r hr).1, hv.2 r hr, hw.2 r hr, Int.mul_zero, Int.add_zero, Int.zero_emod]⟩
theorem InKer.zer (hp : 0 < p) (A : List (List Int)) : InKer p n A (zer n) := ⟨Vc.zer hp, fun r _ => dot_zer⟩
theorem InKer.of (hp : 0 < p) {A B : List (List Int)} (hA : Vcs p n A) (h : ∀ r ∈ B, InKer p n A r) {v : List Int} (hv : In p n B v) : InKer p n A v := by
  induction hv with
  | zero => exact InKer.zer hp A
  | add a _ hr ih => exact ih.add hp hA (h _ hr)
theorem InKer.all (hp : 0 < p) {A : List (List Int)} (hA : Vcs p n A) {v : List Int} (hv : InKer p n A v) {r : List Int} (hr : In p n A r) : mDot p r v = 0 := by
  induction hr with
  | zero => rw [dot_comm (by rw [hv.1.1]; exact (Vc.zer hp : Vc p n _).1), dot_zer]
  | add a hw hr ih =>
    have hwv := hw.vc hp hA
    have hrv := hA _ hr
    rw [dot_comm (by rw [(hwv.add' hp (hrv.scl' hp)).1, hv.1.1]), dot_add hp hwv hrv hv.1.1, dot_comm (by rw [hwv.1, hv.1.1]), ih, dot_comm (by rw [hrv.1, hv.1.1]), hv.2 _ hr, Int.mul_zero, Int.add_zero, Int.zero_emod]
theorem InKer.same (hP : PR p) {A B : List (List Int)} (hA : Vcs p n A) (hB : Vcs p n B) (h : ∀ r, In p n A r ↔ In p n B r) (v : List Int) : InKer p n A v ↔ InKer p n B v :=
  ⟨fun k => ⟨k.1, fun r hr => k.all hP.pos hA ((h r).mpr (In.row hP.pos hB hP.two hr))⟩, fun k => ⟨k.1, fun r hr => k.all hP.pos hB ((h r).mp (In.row hP.pos hA hP.two hr))⟩⟩
end
/-! ### the kernel -/
def unitR (n f : Nat) : List Int := (List.range n).map fun k => if k = f then 1 else 0
def kStep (p : Int) (f : Nat) (row line : List Int) : List Int := row.set (mPv line) ((-(cf line f)) % p)
def kRow (p : Int) (n : Nat) (A : List (List Int)) (f : Nat) : List Int := A.foldl (kStep p f) (unitR n f)
def frees (n : Nat) (A : List (List Int)) : List Nat := (List.range n).filter fun f => !decide (f ∈ A.map mPv)
def kRows (p : Int) (n : Nat) (A : List (List Int)) : List (List Int) := (frees n A).map (kRow p n A)
def mKer (p : Int) (n : Nat) (rows : List (List Int)) : List (List Int) := mRed p n (kRows p n (mRed p n rows))
theorem unitR_len (n f : Nat) : (unitR n f).length = n := by
  unfold unitR
  rw [List.length_map, List.length_range]
theorem cf_unitR {n f k : Nat} (h : k < n) : cf (unitR n f) k = if k = f then 1 else 0 := by
  rw [cf_lt (by rw [unitR_len]; exact h)]
  unfold unitR
  rw [List.getElem_map, List.getElem_range]
theorem cf_set {row : List Int} {i k : Nat} {x : Int} (hi : i < row.length) : cf (row.set i x) k = if k = i then x else cf row k := by
  by_cases c : k = i
  · subst c
    rw [if_pos rfl, cf_lt (by rw [List.length_set]; exact hi), List.getElem_set_self]
  · rw [if_neg c]
    unfold cf
    rw [List.getD_eq_getElem?_getD, List.getD_eq_getElem?_getD, List.getElem?_set_ne (fun e => c e.symm)]
theorem unitR_vc {p : Int} (h2 : 2 ≤ p) (n f : Nat) : Vc p n (unitR n f) := ⟨unitR_len n f, fun x hx => by
  unfold unitR at hx
  obtain ⟨k, _, rfl⟩ := List.mem_map.mp hx
  split <;> omega⟩
theorem Vc.set {p : Int} {n : Nat} {v : List Int} (hp : 0 < p) (h : Vc p n v) (i : Nat) (x : Int) : Vc p n (v.set i (x % p)) := ⟨by rw [List.length_set]; exact h.1, fun y hy => by
  rcases List.mem_or_eq_of_mem_set hy with e | e
  · exact h.2 y e
  · rw [e]
    exact emod_in hp x⟩
theorem kfold {p : Int} {n : Nat} {f : Nat} (hp : 0 < p) : ∀ {l : List (List Int)} {row : List Int}, Vc p n row → (∀ r ∈ l, mPv r < n) → (l.map mPv).Pairwise (· < ·) →
    Vc p n (l.foldl (kStep p f) row) ∧ (∀ k, (∀ r ∈ l, mPv r ≠ k) → cf (l.foldl (kStep p f) row) k = cf row k) ∧ ∀ r ∈ l, cf (l.foldl (kStep p f) row) (mPv r) = (-(cf r f)) % p
  | [], row, h, _, _ => ⟨h, fun _ _ => rfl, fun r hr => absurd hr (by simp)⟩
  | r :: l, row, h, hl, hs => by
    rw [List.map_cons, List.pairwise_cons] at hs
    have hrn := hl r List.mem_cons_self
    have h1 : Vc p n (kStep p f row r) := h.set hp _ _
    obtain ⟨g1, g2, g3⟩ := kfold (f := f) hp (l := l) (row := kStep p f row r) h1 (fun x hx => hl x (List.mem_cons_of_mem _ hx)) hs.2
    have hc : ∀ k, cf (kStep p f row r) k = if k = mPv r then (-(cf r f)) % p else cf row k := fun k => cf_set (by rw [h.1]; exact hrn)
    refine ⟨g1, fun k hk => ?_, fun x hx => ?_⟩
    · rw [List.foldl_cons, g2 k fun x hx => hk x (List.mem_cons_of_mem _ hx), hc, if_neg fun e => hk r List.mem_cons_self e.symm]
    · rcases List.mem_cons.mp hx with e | e
      · rw [e, List.foldl_cons, g2 (mPv r) fun y hy e2 => by
          have := hs.1 (mPv y) (List.mem_map.mpr ⟨y, hy, rfl⟩)
          omega]
        rw [hc, if_pos rfl]
      · rw [List.foldl_cons]
        exact g3 x e
section
variable {p : Int} {n : Nat} {A : List (List Int)}
theorem InForm.pvn (hF : InForm n A) {r : List Int} (hr : r ∈ A) : mPv r < n := by
  obtain ⟨i, hi, e⟩ := hF.pvs hr
  have := (nz_mem (mPv_mem (hF.ne i hi))).1
  rw [hF.len i hi, e] at this
  exact this
theorem mem_frees {f : Nat} : f ∈ frees n A ↔ f < n ∧ ∀ r ∈ A, mPv r ≠ f := by
  unfold frees
  rw [List.mem_filter, List.mem_range]
  refine and_congr_right fun _ => ?_
  simp
theorem kRow_spec (hP : PR p) (hF : InForm n A) (f : Nat) : Vc p n (kRow p n A f) ∧ (∀ k, k < n → (∀ r ∈ A, mPv r ≠ k) → cf (kRow p n A f) k = if k = f then 1 else 0) ∧ ∀ r ∈ A, cf (kRow p n A f) (mPv r) = (-(cf r f)) % p := by
  obtain ⟨h1, h2, h3⟩ := kfold (f := f) hP.pos (l := A) (unitR_vc hP.two n f) (fun r hr => hF.pvn hr) hF.sorted
  exact ⟨h1, fun k hk hn => by rw [← cf_unitR hk]; exact h2 k hn, h3⟩
theorem kRows_vcs (hP : PR p) (hF : InForm n A) : Vcs p n (kRows p n A) := fun v hv => by
  unfold kRows at hv
  obtain ⟨f, _, rfl⟩ := List.mem_map.mp hv
  exact (kRow_spec hP hF f).1
theorem one_piv (hF : InForm n A) {r : List Int} (hr : r ∈ A) : cf r (mPv r) = 1 := by
  obtain ⟨i, hi, e⟩ := hF.pvs hr
  rw [← e]
  exact hF.one i hi
theorem off_piv (hF : InForm n A) {r s : List Int} (hr : r ∈ A) (hs : s ∈ A) (hne : mPv s ≠ mPv r) : cf r (mPv s) = 0 := by
  obtain ⟨i, hi, e⟩ := hF.pvs hr
  obtain ⟨k, hk, e2⟩ := hF.pvs hs
  rw [← e, ← e2]
  exact hF.off k i hk hi fun z => hne (by rw [← e, ← e2, z])
/-- the product with a row of the table: the pivot's item and the free ones -/
theorem kRow_ker (hP : PR p) (hF : InForm n A) (hA : Vcs p n A) {f : Nat} (hf : f ∈ frees n A) : InKer p n A (kRow p n A f) := by
  have hp := hP.pos
  obtain ⟨h1, h2, h3⟩ := kRow_spec hP hF f
  obtain ⟨f1, f2⟩ := mem_frees.mp hf
  refine ⟨h1, fun r hr => ?_⟩
  rw [mDot_sm, (hA r hr).1, sm_two (a := f) (b := mPv r) f1 (hF.pvn hr) (fun e => f2 r hr e.symm) fun k hk k1 k2 => ?_]
  · rw [h2 f f1 f2, if_pos rfl, h3 r hr, one_piv hF hr, Int.mul_one, Int.one_mul, Int.add_emod_emod, Int.add_right_neg, Int.zero_emod]
  · by_cases c : ∃ s ∈ A, mPv s = k
    · obtain ⟨s, hs, rfl⟩ := c
      rw [off_piv hF hr hs k2, Int.zero_mul]
    · rw [h2 k hk fun s hs e => c ⟨s, hs, e⟩, if_neg k1, Int.mul_zero]
/-- the free places are emptied one by one -/
theorem empties (hP : PR p) (hF : InForm n A) (hA : Vcs p n A) {v : List Int} (hv : InKer p n A v) : ∀ {l : List Nat}, (∀ f ∈ l, f ∈ frees n A) → ∃ u w, InKer p n A u ∧ In p n (kRows p n A) w ∧ v = mAdd p u w ∧ ∀ f ∈ l, cf u f = 0
  | [], _ => ⟨v, zer n, hv, .zero, (add_zer hP.pos hv.1).symm, fun f hf => absurd hf (by simp)⟩
  | f :: l, hl => by
    have hp := hP.pos
    obtain ⟨u, w, hu, hw, e, h0⟩ := empties hP hF hA hv (l := l) fun x hx => hl x (List.mem_cons_of_mem _ hx)
    have hf := hl f List.mem_cons_self
    obtain ⟨k1, k2, k3⟩ := kRow_spec hP hF f
    have hkA : kRow p n A f ∈ kRows p n A := List.mem_map.mpr ⟨f, hf, rfl⟩
    have hK := kRows_vcs hP hF
    have hwv := hw.vc hp hK
    refine ⟨mAdd p u (mScl p (-(cf u f)) (kRow p n A f)), mAdd p w (mScl p (cf u f) (kRow p n A f)), hu.add hp hA (kRow_ker hP hF hA hf), .add _ hw hkA, ?_, fun g hg => ?_⟩
    · rw [e]
      have ks := k1.scl' (a := cf u f) hp
      have ks2 := k1.scl' (a := -(cf u f)) hp
      refine vext hp (hu.1.add' hp hwv) ((hu.1.add' hp ks2).add' hp (hwv.add' hp ks)) fun k => ?_
      rw [cf_add (by rw [hu.1.1, hwv.1]), cf_add (by rw [(hu.1.add' hp ks2).1, (hwv.add' hp ks).1]), cf_add (by rw [hu.1.1, ks2.1]), cf_add (by rw [hwv.1, ks.1]), cf_scl, cf_scl]
      simp only [Int.emod_emod, Int.emod_add_emod, Int.add_emod_emod]
      congr 1
      grind
    · obtain ⟨f1, f2⟩ := mem_frees.mp hf
      rw [cf_add (by rw [scl_len, hu.1.1, k1.1]), cf_scl, Int.add_emod_emod]
      by_cases c : g = f
      · subst c
        rw [k2 g f1 f2, if_pos rfl, Int.one_mul, Int.add_right_neg, Int.zero_emod]
      · have hg' : g ∈ l := by
          rcases List.mem_cons.mp hg with e | e
          · exact absurd e c
          · exact e
        obtain ⟨g1, g2⟩ := mem_frees.mp (hl g hg)
        rw [h0 g hg', k2 g g1 g2, if_neg c, Int.zero_mul, Int.add_zero, Int.zero_emod]
theorem kRows_in (hP : PR p) (hF : InForm n A) (hA : Vcs p n A) (v : List Int) : In p n (kRows p n A) v ↔ InKer p n A v := by
  have hp := hP.pos
  refine ⟨fun h => InKer.of hp hA (fun r hr => ?_) h, fun h => ?_⟩
  · unfold kRows at hr
    obtain ⟨f, hf, rfl⟩ := List.mem_map.mp hr
    exact kRow_ker hP hF hA hf
  · obtain ⟨u, w, hu, hw, e, h0⟩ := empties hP hF hA h (l := frees n A) fun f hf => hf
    have hwv := hw.vc hp (kRows_vcs hP hF)
    have hz : u = zer n := vext0 hu.1.1 (Vc.zer hp : Vc p n _).1 fun k hk => by
      rw [cf_zer]
      by_cases c : ∃ s ∈ A, mPv s = k
      · obtain ⟨s, hs, rfl⟩ := c
        have h1 := hu.2 s hs
        rw [mDot_sm, (hA s hs).1, sm_one (a := mPv s) hk fun k hk hne => ?_] at h1
        · rw [one_piv hF hs, Int.one_mul, hu.1.md hp] at h1
          exact h1
        · by_cases c : ∃ t ∈ A, mPv t = k
          · obtain ⟨t, ht, rfl⟩ := c
            rw [off_piv hF hs ht hne, Int.zero_mul]
          · rw [h0 k (mem_frees.mpr ⟨hk, fun t ht e => c ⟨t, ht, e⟩⟩), Int.mul_zero]
      · exact h0 k (mem_frees.mpr ⟨hk, fun t ht e => c ⟨t, ht, e⟩⟩)
    rw [e, hz, zer_add hp hwv]
    exact hw
theorem kRows_priv (hP : PR p) (hF : InForm n A) : Priv (kRows p n A) fun i => (frees n A).getD i 0 := by
  intro i hi
  have hl : (kRows p n A).length = (frees n A).length := List.length_map _
  have hg : ∀ k, k < (kRows p n A).length → (kRows p n A).getD k [] = kRow p n A ((frees n A).getD k 0) := fun k hk => by
    unfold kRows
    exact getD_map' _ 0 _ (by omega)
  have hm : ∀ k, k < (kRows p n A).length → (frees n A).getD k 0 ∈ frees n A := fun k hk => by
    rw [List.getD_eq_getElem?_getD, List.getElem?_eq_getElem (by omega : k < (frees n A).length)]
    exact List.getElem_mem _
  have hnd : (frees n A).Pairwise (· < ·) := by
    unfold frees
    exact List.Pairwise.filter _ List.pairwise_lt_range
  obtain ⟨f1, f2⟩ := mem_frees.mp (hm i hi)
  refine ⟨?_, fun k hk hne => ?_⟩
  · rw [hg i hi, (kRow_spec hP hF _).2.1 _ f1 f2, if_pos rfl]
    decide
  · rw [hg k hk, (kRow_spec hP hF _).2.1 _ f1 f2, if_neg]
    intro e
    rw [List.getD_eq_getElem?_getD, List.getD_eq_getElem?_getD, List.getElem?_eq_getElem (by omega : i < (frees n A).length), List.getElem?_eq_getElem (by omega : k < (frees n A).length)] at e
    have e' : (frees n A)[k] = (frees n A)[i] := e.symm
    rcases Nat.lt_trichotomy i k with c | c | c
    · have := List.pairwise_iff_getElem.mp hnd i k (by omega) (by omega) c
      omega
    · exact hne c.symm
    · have := List.pairwise_iff_getElem.mp hnd k i (by omega) (by omega) c
      omega
theorem filter_two {α : Type} (b : α → Bool) : ∀ l : List α, (l.filter b).length + (l.filter fun x => !b x).length = l.length
  | [] => rfl
  | a :: l => by
    have ih := filter_two b l
    rw [List.filter_cons, List.filter_cons]
    cases b a
    · show (l.filter b).length + ((l.filter fun x => !b x).length + 1) = l.length + 1
      omega
    · show (l.filter b).length + 1 + (l.filter fun x => !b x).length = l.length + 1
      omega
theorem frees_len (hF : InForm n A) : (frees n A).length + A.length = n := by
  have h1 : (List.range n).filter (fun f => decide (f ∈ A.map mPv)) = A.map mPv := sorted_eq (List.Pairwise.filter _ List.pairwise_lt_range) hF.sorted fun x => by
    rw [List.mem_filter, List.mem_range]
    refine ⟨fun h => of_decide_eq_true h.2, fun h => ⟨?_, decide_eq_true h⟩⟩
    obtain ⟨r, hr, rfl⟩ := List.mem_map.mp h
    exact hF.pvn hr
  have h2 := filter_two (fun f => decide (f ∈ A.map mPv)) (List.range n)
  rw [h1, List.length_range, List.length_map] at h2
  unfold frees
  omega
end
section
variable {p : Int} {n : Nat} {rows : List (List Int)}
theorem ker_vcs (hP : PR p) (h : Vcs p n rows) : Vcs p n (mKer p n rows) := red_vcs hP (kRows_vcs hP (red_form hP h).1)
theorem ker_form (hP : PR p) (h : Vcs p n rows) : InForm n (mKer p n rows) := (red_form hP (kRows_vcs hP (red_form hP h).1)).1
theorem ker_in (hP : PR p) (h : Vcs p n rows) (v : List Int) : In p n (mKer p n rows) v ↔ InKer p n rows v := by
  unfold mKer
  rw [red_in hP (kRows_vcs hP (red_form hP h).1), kRows_in hP (red_form hP h).1 (red_vcs hP h), InKer.same hP (red_vcs hP h) h (red_in hP h)]
theorem ker_len (hP : PR p) (h : Vcs p n rows) : (mKer p n rows).length + (mRed p n rows).length = n := by
  have h1 : (mKer p n rows).length = (kRows p n (mRed p n rows)).length := rank_priv hP (kRows_vcs hP (red_form hP h).1) (kRows_priv hP (red_form hP h).1)
  have h2 := frees_len (red_form hP h).1
  rw [h1]
  unfold kRows
  rw [List.length_map]
  exact h2
theorem red_red (hP : PR p) (h : Vcs p n rows) : mRed p n (mRed p n rows) = mRed p n rows := (red_uni hP (red_vcs hP h) h (red_in hP h)).1
/-- the kernel of the kernel -/
theorem ker_ker (hP : PR p) (h : Vcs p n rows) : mKer p n (mKer p n rows) = mRed p n rows := by
  have hp := hP.pos
  have hk := ker_vcs hP h
  have h1 : ∀ v, In p n rows v → In p n (mKer p n (mKer p n rows)) v := fun v hv => by
    rw [ker_in hP hk]
    have hvv := hv.vc hp h
    refine ⟨hvv, fun r hr => ?_⟩
    have h2 := (ker_in hP h r).mp (In.row hp hk hP.two hr)
    rw [dot_comm (by rw [h2.1.1, hvv.1])]
    exact h2.all hp h hv
  have h2 := ker_len hP h
  have h3 := ker_len hP hk
  have e : mRed p n (mKer p n rows) = mKer p n rows := red_red hP (kRows_vcs hP (red_form hP h).1)
  rw [e] at h3
  have e2 : mRed p n (mKer p n (mKer p n rows)) = mKer p n (mKer p n rows) := red_red hP (kRows_vcs hP (red_form hP hk).1)
  rw [← e2]
  refine (red_uni hP (ker_vcs hP hk) h fun v => ⟨fun hv => in_whole hP h (ker_vcs hP hk) h1 ?_ v hv, h1 v⟩).1
  rw [e2]
  omega
end
/-! ### columns; sums of multiples -/
def mCol (rows : List (List Int)) (k : Nat) : List Int := rows.map fun r => cf r k
def mTurn (n : Nat) (rows : List (List Int)) : List (List Int) := (List.range n).map (mCol rows)
def mTot (p : Int) (n : Nat) (rows : List (List Int)) (w : List Int) (i : Nat) : List Int := (List.range i).foldl (fun t k => mAdd p t (mScl p (cf w k) (rows.getD k []))) (zer n)
theorem mTot_succ (p : Int) (n : Nat) (rows : List (List Int)) (w : List Int) (i : Nat) : mTot p n rows w (i + 1) = mAdd p (mTot p n rows w i) (mScl p (cf w i) (rows.getD i [])) := by
  unfold mTot
  rw [List.range_succ, List.foldl_append]
  rfl
theorem cf_col {rows : List (List Int)} {k j : Nat} (h : j < rows.length) : cf (mCol rows k) j = cf (rows.getD j []) k := by
  unfold mCol
  show (rows.map fun r => cf r k).getD j 0 = _
  exact getD_map' _ [] _ h
theorem col_len {rows : List (List Int)} {k : Nat} : (mCol rows k).length = rows.length := List.length_map _
theorem turn_len {rows : List (List Int)} {n : Nat} : (mTurn n rows).length = n := by
  unfold mTurn
  rw [List.length_map, List.length_range]
section
variable {p : Int} {n : Nat} {rows : List (List Int)}
theorem col_vc (hp : 0 < p) (h : Vcs p n rows) (k : Nat) : Vc p rows.length (mCol rows k) := ⟨col_len, fun x hx => by
  unfold mCol at hx
  obtain ⟨r, hr, rfl⟩ := List.mem_map.mp hx
  exact (h r hr).cf hp k⟩
theorem turn_vcs (hp : 0 < p) (h : Vcs p n rows) : Vcs p rows.length (mTurn n rows) := fun v hv => by
  unfold mTurn at hv
  obtain ⟨k, _, rfl⟩ := List.mem_map.mp hv
  exact col_vc hp h k
theorem tot_vc (hp : 0 < p) (h : Vcs p n rows) (w : List Int) : ∀ i, i ≤ rows.length → Vc p n (mTot p n rows w i)
  | 0, _ => Vc.zer hp
  | i + 1, hi => by
    rw [mTot_succ]
    exact (tot_vc hp h w i (by omega)).add' hp ((h _ (getD_memL (by omega))).scl' hp)
theorem cf_tot (hp : 0 < p) (h : Vcs p n rows) (w : List Int) (k : Nat) : ∀ i, i ≤ rows.length → cf (mTot p n rows w i) k = sm (fun j => cf (rows.getD j []) k * cf w j) i % p
  | 0, _ => by
    show cf (zer n) k = 0 % p
    rw [cf_zer, Int.zero_emod]
  | i + 1, hi => by
    have hr := h _ (getD_memL (l := rows) (j := i) (by omega))
    rw [mTot_succ, cf_add (by rw [scl_len, (tot_vc hp h w i (by omega)).1, hr.1]), cf_scl, cf_tot hp h w k i (by omega), Int.emod_add_emod, Int.add_emod_emod]
    rfl
theorem tot_in (hp : 0 < p) (w : List Int) : ∀ i, i ≤ rows.length → In p n rows (mTot p n rows w i)
  | 0, _ => .zero
  | i + 1, hi => by
    rw [mTot_succ]
    exact .add _ (tot_in hp w i (by omega)) (getD_memL (by omega))
theorem tot_ker (hp : 0 < p) (h : Vcs p n rows) {w : List Int} (hw : Vc p rows.length w) : mTot p n rows w rows.length = zer n ↔ InKer p rows.length (mTurn n rows) w := by
  have key : ∀ k, mDot p (mCol rows k) w = cf (mTot p n rows w rows.length) k := fun k => by
    rw [mDot_sm, col_len, cf_tot hp h w k _ (Nat.le_refl _), sm_congr fun j hj => by rw [cf_col hj]]
  refine ⟨fun e => ⟨hw, fun r hr => ?_⟩, fun hk => ?_⟩
  · unfold mTurn at hr
    obtain ⟨k, _, rfl⟩ := List.mem_map.mp hr
    rw [key, e, cf_zer]
  · refine vext0 (tot_vc hp h w _ (Nat.le_refl _)).1 (Vc.zer hp : Vc p n _).1 fun k hk2 => ?_
    rw [← key, cf_zer]
    refine hk.2 _ ?_
    unfold mTurn
    exact List.mem_map.mpr ⟨k, List.mem_range.mpr hk2, rfl⟩
/-- a sum of the rows of a reduced table, by its items at the pivots -/
theorem in_coef (hp : 0 < p) {A : List (List Int)} (hF : InForm n A) (hA : Vcs p n A) {v : List Int} (h : In p n A v) (k : Nat) : cf v k = sm (fun j => cf v (mPv (A.getD j [])) * cf (A.getD j []) k) A.length % p := by
  induction h with
  | zero => rw [cf_zer, sm_zero fun j _ => by rw [cf_zer, Int.zero_mul], Int.zero_emod]
  | add a hw hr ih =>
    rename_i w r
    have hwv := hw.vc hp hA
    have hrv := hA _ hr
    have hc : ∀ k, cf (mAdd p w (mScl p a r)) k = (cf w k + cf r k * a) % p := fun k => by rw [cf_add (by rw [scl_len, hwv.1, hrv.1]), cf_scl, Int.add_emod_emod]
    obtain ⟨i, hi, e⟩ := hF.pvs hr
    have h1 : sm (fun j => cf r (mPv (A.getD j [])) * cf (A.getD j []) k) A.length = cf r k := by
      rw [sm_one (a := i) hi fun j hj hne => ?_]
      · rw [e, one_piv hF hr, Int.one_mul]
      · rw [← e, show cf (A.getD i []) (mPv (A.getD j [])) = 0 from hF.off j i hj hi (fun z => hne z.symm), Int.zero_mul]
    rw [hc, ih, ← h1, Int.emod_add_emod, ← Int.mul_comm a, ← sm_mul, ← sm_add]
    refine sm_mod fun j hj => ?_
    rw [hc, em_l]
    congr 1
    grind
theorem rank_turn_le (hP : PR p) (h : Vcs p n rows) : (mRed p rows.length (mTurn n rows)).length ≤ (mRed p n rows).length := by
  have hp := hP.pos
  have hF := (red_form hP h).1
  have hA := red_vcs hP h
  have hl : ∀ A : List (List Int), (A.map fun a => mCol rows (mPv a)).length = A.length := fun A => List.length_map _
  have hC : Vcs p rows.length ((mRed p n rows).map fun a => mCol rows (mPv a)) := fun v hv => by
    obtain ⟨a, _, rfl⟩ := List.mem_map.mp hv
    exact col_vc hp h _
  have key : ∀ k, In p rows.length ((mRed p n rows).map fun a => mCol rows (mPv a)) (mCol rows k) := fun k => by
    have e : mCol rows k = mTot p rows.length ((mRed p n rows).map fun a => mCol rows (mPv a)) (mCol (mRed p n rows) k) ((mRed p n rows).map fun a => mCol rows (mPv a)).length := by
      refine vext0 col_len (tot_vc hp hC _ _ (Nat.le_refl _)).1 fun i hi => ?_
      rw [cf_tot hp hC _ _ _ (Nat.le_refl _), cf_col hi, in_coef hp hF hA ((red_in hP h _).mpr (In.row hp h hP.two (getD_memL hi))) k, hl]
      congr 1
      refine sm_congr fun j hj => ?_
      rw [getD_map' _ [] _ hj, cf_col hi, cf_col hj]
    rw [e]
    exact tot_in hp _ _ (Nat.le_refl _)
  have h1 := rank_le hP (turn_vcs hp h) hC fun v hv => hv.mono hp hC fun r hr => by
    unfold mTurn at hr
    obtain ⟨k, _, rfl⟩ := List.mem_map.mp hr
    exact key k
  have h2 := red_len hP hC
  rw [hl] at h2
  omega
theorem turn_at {n k : Nat} {rows : List (List Int)} (h : k < (mTurn n rows).length) : (mTurn n rows)[k] = mCol rows k := by simp [mTurn]
theorem turn_turn (h : ∀ r ∈ rows, r.length = n) : mTurn rows.length (mTurn n rows) = rows := by
  refine List.ext_getElem turn_len fun i h1 h2 => ?_
  rw [turn_at h1]
  refine vext0 (n := n) (by rw [col_len, turn_len]) (h _ (List.getElem_mem h2)) fun k hk => ?_
  have hk' : k < (mTurn n rows).length := by rw [turn_len]; exact hk
  rw [cf_col hk', List.getD_eq_getElem?_getD, List.getElem?_eq_getElem hk']
  show cf (mTurn n rows)[k] i = _
  rw [turn_at hk', cf_col h2, List.getD_eq_getElem?_getD, List.getElem?_eq_getElem h2]
  rfl
theorem rank_turn (hP : PR p) (h : Vcs p n rows) : (mRed p rows.length (mTurn n rows)).length = (mRed p n rows).length := by
  refine Nat.le_antisymm (rank_turn_le hP h) ?_
  have h1 := rank_turn_le hP (turn_vcs hP.pos h)
  rw [turn_len, turn_turn fun r hr => (h r hr).1] at h1
  exact h1
end
end Dl
set_option Elab.async false
set_option linter.all false
set_option maxHeartbeats 2000000
/-! LinSol: right sides, solutions, independent rows. No program in sight. -/
namespace Dl
open PySem L2
def mWide (p : Int) (rows : List (List Int)) (right : List Int) : List (List Int) := List.zipWith (fun r g => r ++ [g % p]) rows right
def mSolV (n : Nat) (A : List (List Int)) : List Int := A.foldl (fun f line => f.set (mPv line) (cf line n)) (zer n)
def mSolve (p : Int) (n : Nat) (rows : List (List Int)) (right : List Int) : Option (List Int) := if (n : Int) ∈ mPiv p (n + 1) (mWide p rows right) then none else some (mSolV n (mRed p (n + 1) (mWide p rows right)))
/-! ### the reduction looks at the first columns alone -/
def cutRS (n : Nat) (s : RS) : RS := ⟨s.left.map (List.take n), s.found.map (List.take n), s.piv⟩
theorem cf_take {n k : Nat} {v : List Int} (h : k < n) : cf (v.take n) k = cf v k := by
  unfold cf
  rw [List.getD_eq_getElem?_getD, List.getD_eq_getElem?_getD, List.getElem?_take_of_lt h]
theorem scl_take (p a : Int) (n : Nat) (v : List Int) : (mScl p a v).take n = mScl p a (v.take n) := by
  unfold mScl
  rw [List.map_take]
theorem clr_take (p : Int) {n j : Nat} (h : j < n) (head row : List Int) : (mClr p j head row).take n = mClr p j (head.take n) (row.take n) := by
  unfold mClr
  rw [cf_def, cf_def, cf_take h]
  split
  · rfl
  · rw [List.take_zipWith]
theorem take_getD {n h : Nat} {l : List (List Int)} (hl : h < l.length) : (l.map (List.take n)).getD h [] = (l.getD h []).take n := getD_map' _ [] _ hl
theorem hds_take {n j : Nat} (hj : j < n) (l : List (List Int)) : hds (l.map (List.take n)) j = hds l j := by
  unfold hds
  rw [List.length_map]
  refine List.filter_congr fun k hk => ?_
  rw [take_getD (List.mem_range.mp hk), cf_def, cf_def, cf_take hj]
theorem rStep_take (p : Int) {n j : Nat} (hj : j < n) (s : RS) : cutRS n (rStep p s j) = rStep p (cutRS n s) j := by
  cases e : hds s.left j with
  | nil =>
    rw [rStep_nil e, rStep_nil]
    show hds (s.left.map (List.take n)) j = []
    rw [hds_take hj, e]
  | cons h t =>
    have hl := (hds_mem (by rw [e]; exact List.mem_cons_self : h ∈ hds s.left j)).1
    rw [rStep_cons e, rStep_cons (s := cutRS n s) (h := h) (t := t) (by show hds (s.left.map (List.take n)) j = _; rw [hds_take hj, e])]
    have e1 : (cutRS n s).left.getD h [] = (s.left.getD h []).take n := take_getD hl
    rw [e1, cf_def, cf_def, cf_take hj, ← scl_take]
    show RS.mk _ _ _ = RS.mk _ _ _
    have e2 : ∀ (l : List (List Int)) (hd : List Int), (l.map (mClr p j hd)).map (List.take n) = (l.map (List.take n)).map (mClr p j (hd.take n)) := fun l hd => by
      rw [List.map_map, List.map_map]
      exact List.map_congr_left fun x _ => clr_take p hj hd x
    congr 1
    · rw [e2]
      show _ = List.map _ ((s.left.map (List.take n)).eraseIdx h)
      rw [map_erase]
    · rw [List.map_append, e2]
      rfl
theorem rRun_take (p : Int) {n : Nat} (rows : List (List Int)) : ∀ k, k ≤ n → cutRS n (rRun p rows k) = rRun p (rows.map (List.take n)) k
  | 0, _ => rfl
  | k + 1, h => by
    rw [rRun_succ, rRun_succ, rStep_take p (by omega), rRun_take p rows k (by omega)]
theorem wide_take {p : Int} {n : Nat} : ∀ {rows : List (List Int)} {right : List Int}, (∀ r ∈ rows, r.length = n) → rows.length = right.length → (mWide p rows right).map (List.take n) = rows
  | [], _, _, _ => rfl
  | r :: rows, [], _, h => by simp at h
  | r :: rows, g :: right, hr, h => by
    show ((r ++ [g % p]).take n) :: (mWide p rows right).map (List.take n) = _
    rw [wide_take (fun x hx => hr x (List.mem_cons_of_mem _ hx)) (by simpa using h), List.take_left' (hr r List.mem_cons_self)]
section
variable {p : Int} {n : Nat} {rows : List (List Int)} {right : List Int}
theorem wide_vcs (hp : 0 < p) : ∀ {rows : List (List Int)} {right : List Int}, Vcs p n rows → Vcs p (n + 1) (mWide p rows right)
  | [], _, _ => fun v hv => absurd hv (by simp [mWide])
  | r :: rows, [], _ => fun v hv => absurd hv (by simp [mWide])
  | r :: rows, g :: right, hr => fun v hv => by
    rcases List.mem_cons.mp (show v ∈ (r ++ [g % p]) :: mWide p rows right from hv) with e | e
    · have h1 := hr r List.mem_cons_self
      rw [e]
      refine ⟨by rw [List.length_append, h1.1]; rfl, fun x hx => ?_⟩
      rcases List.mem_append.mp hx with h | h
      · exact h1.2 x h
      · rw [List.mem_singleton.mp h]
        exact emod_in hp g
    · exact wide_vcs hp (fun x hx => hr x (List.mem_cons_of_mem _ hx)) v e
theorem wide_len (hl : rows.length = right.length) : (mWide p rows right).length = rows.length := by
  unfold mWide
  rw [List.length_zipWith, ← hl, Nat.min_self]
/-- either the last column is a pivot, or the pivots are those of the rows -/
theorem piv_cases (hP : PR p) (hR : Vcs p n rows) (hl : rows.length = right.length) : (n : Int) ∈ mPiv p (n + 1) (mWide p rows right) ∨ mPiv p (n + 1) (mWide p rows right) = mPiv p n rows := by
  have e := rRun_take p (n := n) (mWide p rows right) n (Nat.le_refl n)
  rw [wide_take (fun r hr => (hR r hr).1) hl] at e
  have e2 : (rRun p (mWide p rows right) n).piv = mPiv p n rows := by
    show (cutRS n (rRun p (mWide p rows right) n)).piv = _
    rw [e]
    rfl
  unfold mPiv
  rw [rRun_succ]
  cases eh : hds (rRun p (mWide p rows right) n).left n with
  | nil =>
    rw [rStep_nil eh]
    exact .inr e2
  | cons h t =>
    rw [rStep_cons eh]
    exact .inl (List.mem_append_right _ (List.mem_singleton.mpr rfl))
theorem piv_lt (hP : PR p) (hR : Vcs p n rows) {x : Int} (h : x ∈ mPiv p n rows) : 0 ≤ x ∧ x < n := by
  rw [(red_form hP hR).2] at h
  obtain ⟨r, hr, rfl⟩ := List.mem_map.mp h
  have := (red_form hP hR).1.pvn hr
  omega
/-! ### solutions -/
def Fit (p : Int) (rows : List (List Int)) (right : List Int) (v : List Int) : Prop := rows.map (fun r => mDot p r v) = right.map fun g => g % p
theorem cf_app1 {v : List Int} {x : Int} {k : Nat} (h : k < v.length) : cf (v ++ [x]) k = cf v k := by
  show (v ++ [x]).getD k 0 = _
  rw [getD_app1 _ h]
  rfl
theorem cf_app2 {v : List Int} {x : Int} {n : Nat} (h : v.length = n) : cf (v ++ [x]) n = x := by
  subst h
  exact getD_app2 0
theorem dot_wide (hp : 0 < p) {r v : List Int} {g : Int} (hr : r.length = n) (hv : Vc p n v) : mDot p (r ++ [g % p]) (v ++ [p - 1]) = (mDot p r v - g) % p := by
  have e : (r ++ [g % p]).length = n + 1 := by rw [List.length_append, hr]; rfl
  rw [mDot_sm, mDot_sm, e]
  show (sm _ n + cf (r ++ [g % p]) n * cf (v ++ [p - 1]) n) % p = _
  rw [cf_app2 hr, cf_app2 hv.1, sm_congr fun k hk => by rw [cf_app1 (by omega : k < r.length), cf_app1 (by rw [hv.1]; exact hk)], hr, Int.emod_sub_emod, em_al]
  rw [show sm (fun k => cf r k * cf v k) n + g * (p - 1) = sm (fun k => cf r k * cf v k) n - g + p * g by grind]
  exact Int.add_mul_emod_self_left _ _ _
theorem fit_ker (hP : PR p) {v : List Int} (hv : Vc p n v) : ∀ {rows : List (List Int)} {right : List Int}, Vcs p n rows → rows.length = right.length → (Fit p rows right v ↔ ∀ r ∈ mWide p rows right, mDot p r (v ++ [p - 1]) = 0)
  | [], [], _, _ => ⟨fun _ r hr => absurd hr (by simp [mWide]), fun _ => rfl⟩
  | [], _ :: _, _, h => by simp at h
  | _ :: _, [], _, h => by simp at h
  | r :: rows, g :: right, hR, h => by
    have ih := fit_ker hP hv (rows := rows) (right := right) (fun x hx => hR x (List.mem_cons_of_mem _ hx)) (by simpa using h)
    have hp := hP.pos
    have key : mDot p r v = g % p ↔ mDot p (r ++ [g % p]) (v ++ [p - 1]) = 0 := by
      rw [dot_wide hp (hR r List.mem_cons_self).1 hv]
      have h1 : mDot p r v % p = mDot p r v := by
        rw [mDot_sm, Int.emod_emod]
      rw [← Int.emod_emod_of_dvd (mDot p r v - g) (Int.dvd_refl p)]
      constructor
      · intro e
        rw [e, Int.emod_emod, Int.emod_sub_emod, Int.sub_self, Int.zero_emod]
      · intro e
        rw [Int.emod_emod] at e
        have h2 := Int.emod_emod_of_dvd g (Int.dvd_refl p)
        rw [← h1]
        have h3 : (mDot p r v - g + g) % p = (0 + g) % p := by rw [← Int.emod_add_emod, e]
        rw [Int.sub_add_cancel, Int.zero_add] at h3
        exact h3
    unfold Fit at ih ⊢
    show (mDot p r v :: rows.map (fun r => mDot p r v) = g % p :: right.map fun g => g % p) ↔ ∀ x ∈ (r ++ [g % p]) :: mWide p rows right, _
    rw [List.cons.injEq, key, ih]
    simp
theorem fit_in (hP : PR p) (hR : Vcs p n rows) (hl : rows.length = right.length) {v : List Int} (hv : Vc p n v) : Fit p rows right v ↔ InKer p (n + 1) (mRed p (n + 1) (mWide p rows right)) (v ++ [p - 1]) := by
  have hW := wide_vcs (right := right) hP.pos hR
  rw [fit_ker hP hv hR hl, InKer.same hP (red_vcs hP hW) hW (red_in hP hW)]
  refine ⟨fun h => ⟨⟨by rw [List.length_append, hv.1]; rfl, fun x hx => ?_⟩, h⟩, fun h => h.2⟩
  rcases List.mem_append.mp hx with h | h
  · exact hv.2 x h
  · rw [List.mem_singleton.mp h]
    have := hP.pos
    omega
theorem fit_none (hP : PR p) (hR : Vcs p n rows) (hl : rows.length = right.length) (h : (n : Int) ∈ mPiv p (n + 1) (mWide p rows right)) {v : List Int} (hv : Vc p n v) : ¬ Fit p rows right v := by
  intro hf
  have hW := wide_vcs (right := right) hP.pos hR
  have hF := (red_form hP hW).1
  have hA := red_vcs hP hW
  have hk := (fit_in hP hR hl hv).mp hf
  rw [(red_form hP hW).2] at h
  obtain ⟨r, hr, e⟩ := List.mem_map.mp h
  have e' : mPv r = n := by omega
  have hne : nz r ≠ [] := by
    obtain ⟨i, hi, e⟩ := hF.pvs hr
    rw [← e]
    exact hF.ne i hi
  have h0 := (nz_low hne).1
  have h1 := one_piv hF hr
  rw [e'] at h0 h1
  have h2 := hk.2 r hr
  rw [mDot_sm, (hA r hr).1, sm_one (a := n) (Nat.lt_succ_self n) fun k hk hne => by rw [h0 k (by omega), Int.zero_mul], h1, cf_app2 hv.1, Int.one_mul] at h2
  have := hP.two
  rw [Int.emod_eq_of_lt (by omega) (by omega)] at h2
  omega
theorem sfold {n : Nat} {f : Nat} : ∀ {l : List (List Int)} {row : List Int}, Vc p n row → (∀ r ∈ l, mPv r < n ∧ 0 ≤ cf r f ∧ cf r f < p) → (l.map mPv).Pairwise (· < ·) →
    Vc p n (l.foldl (fun z line => z.set (mPv line) (cf line f)) row) ∧ (∀ k, (∀ r ∈ l, mPv r ≠ k) → cf (l.foldl (fun z line => z.set (mPv line) (cf line f)) row) k = cf row k) ∧ ∀ r ∈ l, cf (l.foldl (fun z line => z.set (mPv line) (cf line f)) row) (mPv r) = cf r f
  | [], row, h, _, _ => ⟨h, fun _ _ => rfl, fun r hr => absurd hr (by simp)⟩
  | r :: l, row, h, hl, hs => by
    rw [List.map_cons, List.pairwise_cons] at hs
    have hrn := hl r List.mem_cons_self
    have h1 : Vc p n (row.set (mPv r) (cf r f)) := ⟨by rw [List.length_set]; exact h.1, fun y hy => by
      rcases List.mem_or_eq_of_mem_set hy with e | e
      · exact h.2 y e
      · rw [e]
        exact hrn.2⟩
    obtain ⟨g1, g2, g3⟩ := sfold (f := f) (l := l) (row := row.set (mPv r) (cf r f)) h1 (fun x hx => hl x (List.mem_cons_of_mem _ hx)) hs.2
    have hc : ∀ k, cf (row.set (mPv r) (cf r f)) k = if k = mPv r then cf r f else cf row k := fun k => cf_set (by rw [h.1]; exact hrn.1)
    refine ⟨g1, fun k hk => ?_, fun x hx => ?_⟩
    · rw [List.foldl_cons, g2 k fun x hx => hk x (List.mem_cons_of_mem _ hx), hc, if_neg fun e => hk r List.mem_cons_self e.symm]
    · rcases List.mem_cons.mp hx with e | e
      · rw [e, List.foldl_cons, g2 (mPv r) fun y hy e2 => by
          have := hs.1 (mPv y) (List.mem_map.mpr ⟨y, hy, rfl⟩)
          omega]
        rw [hc, if_pos rfl]
      · rw [List.foldl_cons]
        exact g3 x e
theorem solV_spec (hP : PR p) (hR : Vcs p n rows) (h : (n : Int) ∉ mPiv p (n + 1) (mWide p rows right)) :
    (∀ r ∈ mRed p (n + 1) (mWide p rows right), mPv r < n) ∧ Vc p n (mSolV n (mRed p (n + 1) (mWide p rows right))) ∧ (∀ k, (∀ r ∈ mRed p (n + 1) (mWide p rows right), mPv r ≠ k) → cf (mSolV n (mRed p (n + 1) (mWide p rows right))) k = 0) ∧ ∀ r ∈ mRed p (n + 1) (mWide p rows right), cf (mSolV n (mRed p (n + 1) (mWide p rows right))) (mPv r) = cf r n := by
  have hW := wide_vcs (right := right) hP.pos hR
  have hF := (red_form hP hW).1
  have hA := red_vcs hP hW
  rw [(red_form hP hW).2] at h
  have hlt : ∀ r ∈ mRed p (n + 1) (mWide p rows right), mPv r < n := fun r hr => by
    have h1 := hF.pvn hr
    have h2 : mPv r ≠ n := fun e => h (List.mem_map.mpr ⟨r, hr, by rw [e]⟩)
    omega
  obtain ⟨g1, g2, g3⟩ := sfold (p := p) (n := n) (f := n) (l := mRed p (n + 1) (mWide p rows right)) (row := zer n) (Vc.zer hP.pos) (fun r hr => ⟨hlt r hr, (hA r hr).cf hP.pos n⟩) hF.sorted
  exact ⟨hlt, g1, fun k hk => by
    have := g2 k hk
    rw [cf_zer] at this
    exact this, g3⟩
theorem dot_sol (hP : PR p) (hR : Vcs p n rows) {r v : List Int} (hr : r ∈ mRed p (n + 1) (mWide p rows right)) (hv : Vc p n v) (hlt : mPv r < n) (h0 : ∀ k, k < n → (∀ r ∈ mRed p (n + 1) (mWide p rows right), mPv r ≠ k) → cf v k = 0) : mDot p r (v ++ [p - 1]) = (cf v (mPv r) - cf r n) % p := by
  have hW := wide_vcs (right := right) hP.pos hR
  have hF := (red_form hP hW).1
  have hA := red_vcs hP hW
  rw [mDot_sm, (hA r hr).1]
  show (sm _ n + cf r n * cf (v ++ [p - 1]) n) % p = _
  rw [cf_app2 hv.1, sm_congr fun k hk => by rw [cf_app1 (by rw [hv.1]; exact hk : k < v.length)], sm_one (a := mPv r) hlt fun k hk hne => ?_]
  · rw [one_piv hF hr, Int.one_mul, show cf v (mPv r) + cf r n * (p - 1) = cf v (mPv r) - cf r n + p * cf r n by grind]
    exact Int.add_mul_emod_self_left _ _ _
  · by_cases c : ∃ s ∈ mRed p (n + 1) (mWide p rows right), mPv s = k
    · obtain ⟨s, hs, rfl⟩ := c
      rw [off_piv hF hr hs hne, Int.zero_mul]
    · rw [h0 k hk fun s hs e => c ⟨s, hs, e⟩, Int.mul_zero]
/-- the told row is a solution, and the only one that is 0 at the free places -/
theorem sol_fit (hP : PR p) (hR : Vcs p n rows) (hl : rows.length = right.length) (h : (n : Int) ∉ mPiv p (n + 1) (mWide p rows right)) : Fit p rows right (mSolV n (mRed p (n + 1) (mWide p rows right))) := by
  obtain ⟨h1, h2, h3, h4⟩ := solV_spec (right := right) hP hR h
  have hp := hP.pos
  rw [fit_in hP hR hl h2]
  refine ⟨⟨by rw [List.length_append, h2.1]; rfl, fun x hx => ?_⟩, fun r hr => ?_⟩
  · rcases List.mem_append.mp hx with h | h
    · exact h2.2 x h
    · rw [List.mem_singleton.mp h]
      omega
  · rw [dot_sol hP hR hr h2 (h1 r hr) fun k _ hk => h3 k hk, h4 r hr, Int.sub_self, Int.zero_emod]
theorem sol_uni (hP : PR p) (hR : Vcs p n rows) (hl : rows.length = right.length) (h : (n : Int) ∉ mPiv p (n + 1) (mWide p rows right)) {v : List Int} (hv : Vc p n v) (hf : Fit p rows right v) (h0 : ∀ k, k < n → (k : Int) ∉ mPiv p n rows → cf v k = 0) : v = mSolV n (mRed p (n + 1) (mWide p rows right)) := by
  obtain ⟨h1, h2, h3, h4⟩ := solV_spec (right := right) hP hR h
  have hp := hP.pos
  have hW := wide_vcs (right := right) hP.pos hR
  have e : mPiv p (n + 1) (mWide p rows right) = mPiv p n rows := by
    rcases piv_cases hP hR hl with c | c
    · exact absurd c h
    · exact c
  have h0' : ∀ k, k < n → (∀ r ∈ mRed p (n + 1) (mWide p rows right), mPv r ≠ k) → cf v k = 0 := fun k hk hn => h0 k hk fun z => by
    rw [← e, (red_form hP hW).2] at z
    obtain ⟨r, hr, e2⟩ := List.mem_map.mp z
    exact hn r hr (by omega)
  have hk := (fit_in hP hR hl hv).mp hf
  refine vext0 hv.1 h2.1 fun k hk2 => ?_
  by_cases c : ∃ s ∈ mRed p (n + 1) (mWide p rows right), mPv s = k
  · obtain ⟨s, hs, rfl⟩ := c
    have h5 := hk.2 s hs
    rw [dot_sol hP hR hs hv hk2 h0'] at h5
    rw [h4 s hs, ← hv.md hp, ← (red_vcs hP hW s hs).md hp n]
    have h6 : (cf v (mPv s) - cf s n + cf s n) % p = (0 + cf s n) % p := by rw [← Int.emod_add_emod, h5]
    rw [Int.sub_add_cancel, Int.zero_add] at h6
    exact h6
  · rw [h0' k hk2 fun s hs e => c ⟨s, hs, e⟩, h3 k fun s hs e => c ⟨s, hs, e⟩]
theorem sol_free (hP : PR p) (hR : Vcs p n rows) (hl : rows.length = right.length) (h : (n : Int) ∉ mPiv p (n + 1) (mWide p rows right)) {k : Nat} (hk : (k : Int) ∉ mPiv p n rows) : cf (mSolV n (mRed p (n + 1) (mWide p rows right))) k = 0 := by
  obtain ⟨h1, h2, h3, h4⟩ := solV_spec (right := right) hP hR h
  have hW := wide_vcs (right := right) hP.pos hR
  have e : mPiv p (n + 1) (mWide p rows right) = mPiv p n rows := by
    rcases piv_cases hP hR hl with c | c
    · exact absurd c h
    · exact c
  refine h3 k fun r hr e2 => hk ?_
  rw [← e, (red_form hP hW).2]
  exact List.mem_map.mpr ⟨r, hr, by rw [e2]⟩
end
end Dl
set_option Elab.async false
set_option linter.all false
set_option maxRecDepth 100000
set_option maxHeartbeats 2000000
/-! ZipM: zip over a list or a tuple on either side. -/
namespace ZipM
open PySem PySem.Spec PyProof.Rows L2
/-- true: a tuple; false: a list -/
def SqK (k : Bool) (K : PySem.W.Frag) (H : Hp) (a : Addr) (xs : List V) : Prop := match k with | true => SqT K H a xs | false => SqL K H a xs
def itK (k : Bool) (h : Heap) (it l : Addr) (i : Nat) : Prop := match k with | true => h.IsTupleIter it l i | false => h.IsListIter it l i
def arK (k : Bool) (h : Heap) (l : Addr) (xs : Array Value) : Prop := match k with | true => h.IsTuple l xs | false => h.IsList l xs
theorem drawsK {prog : Program} {w : World} {A : Around} (hh : A.handled = none) (k : Bool) (it l : Addr) (ne : l ≠ it) (items : Array Value) : Draws prog w A it [it, l] items.size (fun i v => items[i]? = some v) (fun i h => itK k h it l i ∧ arK k h l items) := by
  cases k with
  | true => exact Draws.tuple hh it l ne items
  | false => exact Draws.list hh it l ne items
theorem itK.obj {k : Bool} {h : Heap} {it l : Addr} {i : Nat} (e : itK k h it l i) : ∃ o, h.get? it = some o ∧ ∀ v, o.data ≠ .cell v := by
  cases k with
  | true =>
    obtain ⟨o, e1, _, d1⟩ := e
    exact ⟨o, e1, fun v q => by rw [d1] at q; cases q⟩
  | false =>
    obtain ⟨o, e1, _, d1⟩ := e
    exact ⟨o, e1, fun v q => by rw [d1] at q; cases q⟩
theorem itK.at {k : Bool} {h h' : Heap} {it l : Addr} {i : Nat} (e : itK k h it l i) (f : ∀ o, h.get? it = some o → h'.get? it = some o) : itK k h' it l i := by
  cases k with
  | true => exact Heap.IsTupleIter.at e f
  | false => exact Heap.IsListIter.at e f
theorem itK.lt {k : Bool} {h : Heap} {it l : Addr} {i : Nat} (e : itK k h it l i) : it < h.objs.size := by
  obtain ⟨o, e1, _⟩ := e.obj
  exact Heap.lt_size e1
section
variable {X : Cx} {pins : List (Addr × Obj)} {σ : L2.St} {H : Hp} {s : Shared}
theorem seqK {k : Bool} (I : Inv X pins σ H s) {a : Addr} {xs : List V} (h : SqK k X.K H a xs) : ∃ its : List Value, Vals xs its ∧ arK k s.heap a its.toArray ∧ a < s.heap.objs.size := by
  cases k with
  | true =>
    obtain ⟨its, rv, p, _⟩ := I.tuple h
    obtain ⟨o, e, _⟩ := id p
    exact ⟨its, rv, show s.heap.IsTuple a its.toArray from p, Heap.lt_size e⟩
  | false =>
    obtain ⟨its, rv, p, _⟩ := I.list h
    exact ⟨its, rv, p.isList, p.lt⟩
theorem injK {k : Bool} (I : Inv X pins σ H s) {a : Addr} {xs ys : List V} (h : SqK k X.K H a xs) (h' : SqK k X.K H a ys) : xs = ys := by
  cases k with
  | true => exact I.tuple_inj h h'
  | false => exact I.list_inj h h'
end
def ItzM (K : PySem.W.Frag) (k1 k2 : Bool) (a b : Addr) : It where
  go i H := ∃ (us ws : List V) (u v : V), SqK k1 K H a us ∧ SqK k2 K H b ws ∧ us[i]? = some u ∧ ws[i]? = some v
  yld i H r H' := ∃ T u v, r = .ref T ∧ H T = none ∧ H' = upd H T (.tup [u, v]) ∧ (∀ us, SqK k1 K H a us → us[i]? = some u) ∧ ∀ ws, SqK k2 K H b ws → ws[i]? = some v
  stop i H := ∃ us ws : List V, SqK k1 K H a us ∧ SqK k2 K H b ws ∧ i ≤ us.length ∧ i ≤ ws.length ∧ (i = us.length ∨ i = ws.length)
theorem turn_zipM {P : Program} {w : World} {K : PySem.W.Frag} {elts : List Expr} {kk : Nat} {tpos : Pos} {a b z TI TO i1 i2 : Addr} {k1 k2 : Bool} (S : ZipSep2 z TI TO i1 i2 [i1, a] [i2, b]) (na : a ≠ i1) (nb : b ≠ i2) :
    Turn P w K (.Tuple elts kk tpos) (ItzM K k1 k2 a b) [z, TI, TO, i1, i2] z (fun i h => IsZip h z TI TO .none ∧ IsPair h TI (.ref i1) (.ref i2) ∧ (∃ x y, IsPair h TO x y) ∧ itK k1 h i1 a i ∧ itK k2 h i2 b i) where
  mem := List.mem_cons_self
  obj := fun i h ⟨hz, hTI, ⟨x, y, hTO⟩, h1, h2⟩ c hc => by
    rcases (show c = z ∨ c = TI ∨ c = TO ∨ c = i1 ∨ c = i2 by simpa using hc) with q | q | q | q | q
    · subst q; exact ⟨_, hz, fun v e => nomatch e⟩
    · subst q; exact ⟨_, hTI, fun v e => nomatch e⟩
    · subst q; exact ⟨_, hTO, fun v e => nomatch e⟩
    · subst q; exact h1.obj
    · subst q; exact h2.obj
  keep := fun i h h' ⟨hz, hTI, ⟨x, y, hTO⟩, h1, h2⟩ k => ⟨k z (by simp) _ hz, k TI (by simp) _ hTI, ⟨x, y, k TO (by simp) _ hTO⟩, h1.at fun o q => k i1 (by simp) o q, h2.at fun o q => k i2 (by simp) o q⟩
  item := by
    rintro X rfl rfl rfl hc i pins s σ H E I hf ⟨hz, hTI, ⟨x0, y0, hTO⟩, h1, h2⟩ ⟨us, ws, u, v, hqx, hqy, hx, hy⟩
    obtain ⟨its, rv, p, pl⟩ := seqK I hqx
    obtain ⟨its2, rv2, p2, pl2⟩ := seqK I hqy
    obtain ⟨x, hu, ru⟩ := rv.get hx
    obtain ⟨y, hv, ru2⟩ := rv2.get hy
    have li : i < its.toArray.size := by
      have := (List.getElem?_eq_some_iff.mp hu).1
      simpa using this
    have li2 : i < its2.toArray.size := by
      have := (List.getElem?_eq_some_iff.mp hv).1
      simpa using this
    have hzl : z < s.heap.objs.size := Heap.lt_size hz
    have hh : X.A.in1.handled = none := I.ok.hd hc
    refine wpAny_pyNext_zipD2_item S (drawsK hh k1 i1 a na its.toArray) (drawsK hh k2 i2 b nb its2.toArray) hz hTI hTO ⟨h1, p⟩ ⟨h2, p2⟩ li li2 fun x1 x2 g tk e1 e2 gz gTO gs1 gs2 gT gsz gk => ?_
    have ex1 : x1 = x := by
      have : its.toArray[i]? = some x := by simpa using hu
      exact Option.some.inj (e1.symm.trans this)
    have ex2 : x2 = y := by
      have : its2.toArray[i]? = some y := by simpa using hv
      exact Option.some.inj (e2.symm.trans this)
    subst ex1 ex2
    refine ⟨_, rfl, wpAny_letOwnedTupleGo_zip (s := { s with heap := g, toks := tk }) gz fun g2 z2 sb => ?_⟩
    have gT2 : g2.get? s.heap.objs.size = some { cls := .type "tuple", data := .seq #[x1, x2] } := (sb.2 _ (Nat.ne_of_gt hzl)).trans gT
    have new : ObjOk X.prog X.w (upd H s.heap.objs.size (.tup [u, v])) g2 s.heap.objs.size (.tup [u, v]) := ⟨show 2 ≤ sizeLine by decide, [x1, x2], .cons ru (.cons ru2 .nil), ⟨_, gT2, rfl, _, rfl⟩⟩
    have I1 : Inv X pins σ (upd H s.heap.objs.size (.tup [u, v])) { s with heap := g2, toks := tk } := by
      refine I.turnedNew (t' := tk) (ch := [z, TI, TO, i1, i2]) (fun c o hb q => ?_) hf (Nat.le_refl _) new
      have nz : c ≠ z := fun e => hb (by simp [e])
      exact (sb.2 c nz).trans (gk c o nz (fun e => hb (by simp [e])) (fun e => hb (by simp [e])) (fun e => hb (by simp [e])) q)
    have lts : ∀ c ∈ [z, TI, TO, i1, i2], c < s.heap.objs.size := fun c hcm => by
      rcases (show c = z ∨ c = TI ∨ c = TO ∨ c = i1 ∨ c = i2 by simpa using hcm) with q | q | q | q | q
      · subst q; exact hzl
      · subst q; exact Heap.lt_size hTI
      · subst q; exact Heap.lt_size hTO
      · subst q; exact h1.lt
      · subst q; exact h2.lt
    refine ⟨.ref s.heap.objs.size, _, I1, rfl, ⟨_, u, v, rfl, I.hok.fresh (Nat.le_refl _), rfl, fun l hl => by rw [injK I hl hqx]; exact hx, fun l hl => by rw [injK I hl hqy]; exact hy⟩, ⟨z2, (sb.2 _ S.TIz).trans (gk _ _ S.TIz S.TITO S.TIi1 S.TIi2 hTI), ⟨x1, x2, (sb.2 _ S.TOz).trans gTO⟩, gs1.1.at fun o q => (sb.2 _ S.zi1.symm).trans q, gs2.1.at fun o q => (sb.2 _ S.zi2.symm).trans q⟩, fun c hcm => ?_⟩
    rw [upd_ne (Nat.ne_of_lt (lts c hcm))]
    exact (hf c hcm).1
  done := by
    rintro X rfl rfl rfl hc i pins s σ H E I hf ⟨hz, hTI, ⟨x0, y0, hTO⟩, h1, h2⟩ ⟨us, ws, hqx, hqy, hl1, hl2, hend⟩
    obtain ⟨its, rv, p, pl⟩ := seqK I hqx
    obtain ⟨its2, rv2, p2, pl2⟩ := seqK I hqy
    have n1 : its.toArray.size = us.length := by rw [List.size_toArray, rv.length]
    have n2 : its2.toArray.size = ws.length := by rw [List.size_toArray, rv2.length]
    have hh : X.A.in1.handled = none := I.ok.hd hc
    refine wpAny_pyNext_zipD2_end S (drawsK hh k1 i1 a na its.toArray) (drawsK hh k2 i2 b nb its2.toArray) hz hTI hTO ⟨h1, p⟩ ⟨h2, p2⟩ (by omega) (by omega) (by omega) fun g tk gk => ⟨rfl, I.turnedL (t' := tk) (ch := [z, TI, TO, i1, i2]) (fun c o hb q => ?_) hf⟩
    exact gk c o (fun e => hb (by simp [e])) (fun e => hb (by simp [e])) (fun e => hb (by simp [e])) (fun e => hb (by simp [e])) q
  self := fun A i s Q E st h => wpAny_pyIter_zip st.1 h
/-! ### the call -/
def nmK (k : Bool) : String := if k then "tuple_iterator" else "list_iterator"
abbrev mH1 (n1 : String) (h : Heap) (l1 : Addr) : Heap := h.push { cls := .type n1, data := .fields #[.ref l1, .int 0 0] }
abbrev mH2 (n1 n2 : String) (h : Heap) (l1 l2 : Addr) : Heap := (mH1 n1 h l1).push { cls := .type n2, data := .fields #[.ref l2, .int 0 0] }
abbrev mH3 (n1 n2 : String) (h : Heap) (l1 l2 : Addr) : Heap := (mH2 n1 n2 h l1 l2).push { cls := .type "tuple", data := .seq #[.ref h.objs.size, .ref (mH1 n1 h l1).objs.size] }
abbrev mH4 (n1 n2 : String) (h : Heap) (l1 l2 : Addr) : Heap := (mH3 n1 n2 h l1 l2).push { cls := .type "tuple", data := .seq #[.none, .none] }
abbrev mH5 (n1 n2 : String) (h : Heap) (l1 l2 : Addr) : Heap := (mH4 n1 n2 h l1 l2).push { cls := .type "zip", data := .fields #[.none, .bool false, .bool false, .ref (mH2 n1 n2 h l1 l2).objs.size, .ref (mH3 n1 n2 h l1 l2).objs.size] }
theorem meets_LT (l1 l2 : Addr) (xs ys : Array Value) : Meets (Builtin.«zip.__new__» ⟨[.type "zip", .ref l1, .ref l2], []⟩) (fun _ R s => s.heap.IsList l1 xs ∧ s.heap.IsTuple l2 ys ∧ R (.ok (.ret (.ref (mH4 "list_iterator" "tuple_iterator" s.heap l1 l2).objs.size))) { s with heap := mH5 "list_iterator" "tuple_iterator" s.heap l1 l2 }) := .of_wp fun prog w A R s h => by
  obtain ⟨hp, g, d, tk, os⟩ := s
  obtain ⟨hl1, hl2, h⟩ := h
  have hsub := sub_zip
  have q1 : Heap.IsList (Shared.heap ⟨hp, g, d, tk, os⟩) l1 xs := hl1
  have q2 : Heap.IsTuple (Shared.heap ⟨hp.push { cls := .type "list_iterator", data := .fields #[.ref l1, .int 0 0] }, g, d, tk, os⟩) l2 ys := Heap.IsTuple.push hl2 _
  wp_walk using wpAny_pyIter_list q1, wpAny_pyIter_tuple q2
  exact ⟨_, rfl, h⟩
theorem meets_TL (l1 l2 : Addr) (xs ys : Array Value) : Meets (Builtin.«zip.__new__» ⟨[.type "zip", .ref l1, .ref l2], []⟩) (fun _ R s => s.heap.IsTuple l1 xs ∧ s.heap.IsList l2 ys ∧ R (.ok (.ret (.ref (mH4 "tuple_iterator" "list_iterator" s.heap l1 l2).objs.size))) { s with heap := mH5 "tuple_iterator" "list_iterator" s.heap l1 l2 }) := .of_wp fun prog w A R s h => by
  obtain ⟨hp, g, d, tk, os⟩ := s
  obtain ⟨hl1, hl2, h⟩ := h
  have hsub := sub_zip
  have q1 : Heap.IsTuple (Shared.heap ⟨hp, g, d, tk, os⟩) l1 xs := hl1
  have q2 : Heap.IsList (Shared.heap ⟨hp.push { cls := .type "tuple_iterator", data := .fields #[.ref l1, .int 0 0] }, g, d, tk, os⟩) l2 ys := Heap.IsList.push hl2 _
  wp_walk using wpAny_pyIter_tuple q1, wpAny_pyIter_list q2
  exact ⟨_, rfl, h⟩
theorem mH_facts (n1 n2 : String) (h : Heap) (l1 l2 : Addr) : (mH5 n1 n2 h l1 l2).objs.size = h.objs.size + 5 ∧ (mH4 n1 n2 h l1 l2).objs.size = h.objs.size + 4 ∧ IsZip (mH5 n1 n2 h l1 l2) (h.objs.size + 4) (h.objs.size + 2) (h.objs.size + 3) .none ∧ IsPair (mH5 n1 n2 h l1 l2) (h.objs.size + 2) (.ref h.objs.size) (.ref (h.objs.size + 1)) ∧ IsPair (mH5 n1 n2 h l1 l2) (h.objs.size + 3) .none .none ∧
    (mH5 n1 n2 h l1 l2).get? h.objs.size = some { cls := .type n1, data := .fields #[.ref l1, .int 0 0] } ∧ (mH5 n1 n2 h l1 l2).get? (h.objs.size + 1) = some { cls := .type n2, data := .fields #[.ref l2, .int 0 0] } ∧ ∀ c o, h.get? c = some o → (mH5 n1 n2 h l1 l2).get? c = some o := by
  have z1 : (mH1 n1 h l1).objs.size = h.objs.size + 1 := Heap.size_push ..
  have z2 : (mH2 n1 n2 h l1 l2).objs.size = h.objs.size + 2 := by rw [Heap.size_push, z1]
  have z3 : (mH3 n1 n2 h l1 l2).objs.size = h.objs.size + 3 := by rw [Heap.size_push, z2]
  have z4 : (mH4 n1 n2 h l1 l2).objs.size = h.objs.size + 4 := by rw [Heap.size_push, z3]
  have z5 : (mH5 n1 n2 h l1 l2).objs.size = h.objs.size + 5 := by rw [Heap.size_push, z4]
  have up5 : ∀ c o, (mH4 n1 n2 h l1 l2).get? c = some o → (mH5 n1 n2 h l1 l2).get? c = some o := fun c o e => Heap.get?_push_of_some _ e
  have up4 : ∀ c o, (mH3 n1 n2 h l1 l2).get? c = some o → (mH5 n1 n2 h l1 l2).get? c = some o := fun c o e => up5 c o (Heap.get?_push_of_some _ e)
  have up3 : ∀ c o, (mH2 n1 n2 h l1 l2).get? c = some o → (mH5 n1 n2 h l1 l2).get? c = some o := fun c o e => up4 c o (Heap.get?_push_of_some _ e)
  have up2 : ∀ c o, (mH1 n1 h l1).get? c = some o → (mH5 n1 n2 h l1 l2).get? c = some o := fun c o e => up3 c o (Heap.get?_push_of_some _ e)
  have g5 : (mH5 n1 n2 h l1 l2).get? (mH4 n1 n2 h l1 l2).objs.size = some _ := Heap.get?_push_size _ rfl
  have g4 := up5 _ _ (Heap.get?_push_size (mH3 n1 n2 h l1 l2) (o := { cls := .type "tuple", data := .seq #[.none, .none] }) rfl)
  have g3 := up4 _ _ (Heap.get?_push_size (mH2 n1 n2 h l1 l2) (o := { cls := .type "tuple", data := .seq #[.ref h.objs.size, .ref (mH1 n1 h l1).objs.size] }) rfl)
  have g2 := up3 _ _ (Heap.get?_push_size (mH1 n1 h l1) (o := { cls := .type n2, data := .fields #[.ref l2, .int 0 0] }) rfl)
  have g1 := up2 _ _ (Heap.get?_push_size h (o := { cls := .type n1, data := .fields #[.ref l1, .int 0 0] }) rfl)
  rw [z4, z2, z3] at g5
  rw [z3] at g4
  rw [z2, z1] at g3
  rw [z1] at g2
  exact ⟨z5, z4, g5, g3, g4, g1, g2, fun c o e => up2 c o (Heap.get?_push_of_some _ e)⟩
section
variable {prog : Program} {w : World} {A : Around} {E : Value → Shared → Prop} {s : Shared}
theorem call_zipM {k1 k2 : Bool} {l1 l2 : Addr} {xs ys : Array Value} {Q : Value → Shared → Prop} (hl1 : arK k1 s.heap l1 xs) (hl2 : arK k2 s.heap l2 ys)
    (h : ∀ g, IsZip g (s.heap.objs.size + 4) (s.heap.objs.size + 2) (s.heap.objs.size + 3) .none ∧ IsPair g (s.heap.objs.size + 2) (.ref s.heap.objs.size) (.ref (s.heap.objs.size + 1)) ∧ (∃ x y, IsPair g (s.heap.objs.size + 3) x y) ∧ itK k1 g s.heap.objs.size l1 0 ∧ itK k2 g (s.heap.objs.size + 1) l2 0 →
      (∀ c o, s.heap.get? c = some o → g.get? c = some o) → Q (.ref (s.heap.objs.size + 4)) { s with heap := g }) : wpAny (model prog w) A (call (.type "zip") [.ref l1, .ref l2]) Q E s := by
  have mk : ∀ n1 n2 : String, (itK k1 (mH5 n1 n2 s.heap l1 l2) s.heap.objs.size l1 0 ∧ itK k2 (mH5 n1 n2 s.heap l1 l2) (s.heap.objs.size + 1) l2 0) → (∃ o, (mH5 n1 n2 s.heap l1 l2).get? (s.heap.objs.size + 4) = some o ∧ o.cls = .type "zip") ∧ Q (.ref (s.heap.objs.size + 4)) { s with heap := mH5 n1 n2 s.heap l1 l2 } := fun n1 n2 hi => by
    obtain ⟨_, _, f1, f2, f3, _, _, f6⟩ := mH_facts n1 n2 s.heap l1 l2
    exact ⟨⟨_, f1, rfl⟩, h _ ⟨f1, f2, ⟨_, _, f3⟩, hi.1, hi.2⟩ f6⟩
  cases k1 with
  | false =>
    cases k2 with
    | false => exact call_zip_2 hl1 hl2 fun g a1 a2 a3 a4 a5 _ a7 => h g ⟨a1, a2, ⟨_, _, a3⟩, a4, a5⟩ a7
    | true =>
      refine callType_new F.called_zip (by decide) (F.typeCall_zip_2 _ _) (F.newCall_zip_2 _ _) (fun obj => F.args_object_init_3 obj _ _) F.entry_zip_new (meets_LT l1 l2 xs ys) ⟨hl1, hl2, ?_⟩
      obtain ⟨_, f0, _, _, _, f4, f5, _⟩ := mH_facts "list_iterator" "tuple_iterator" s.heap l1 l2
      show _ ∧ _
      rw [f0]
      exact mk _ _ ⟨⟨_, f4, rfl, rfl⟩, ⟨_, f5, rfl, rfl⟩⟩
  | true =>
    cases k2 with
    | true => exact RZ.call_zipT hl1 hl2 fun g a1 a2 a3 a4 a5 _ a7 => h g ⟨a1, a2, ⟨_, _, a3⟩, a4, a5⟩ a7
    | false =>
      refine callType_new F.called_zip (by decide) (F.typeCall_zip_2 _ _) (F.newCall_zip_2 _ _) (fun obj => F.args_object_init_3 obj _ _) F.entry_zip_new (meets_TL l1 l2 xs ys) ⟨hl1, hl2, ?_⟩
      obtain ⟨_, f0, _, _, _, f4, f5, _⟩ := mH_facts "tuple_iterator" "list_iterator" s.heap l1 l2
      show _ ∧ _
      rw [f0]
      exact mk _ _ ⟨⟨_, f4, rfl, rfl⟩, ⟨_, f5, rfl, rfl⟩⟩
end
def iZipM (K : PySem.W.Frag) (ta : TA) : TI := fun σ H R => ta σ H fun vs H1 => ∃ (a b : Addr) (xs ys : List V) (k1 k2 : Bool), vs = [.ref a, .ref b] ∧ SqK k1 K H1 a xs ∧ SqK k2 K H1 b ys ∧ R (ItzM K k1 k2 a b) H1
theorem pi_zipM {X : Cx} (K : PySem.W.Frag) {e e2 : Expr} {ta : TA} {p pos tpos : Pos} {elts : List Expr} {kk : Nat} (hg : Gl X "zip") (hm : X.mg "zip" = none) (ha : PA X [e, e2] ta) (hK : X.K = K := by rfl)
    (hs : starEach [e, e2] X.env = (false, eval e X.env) :: starEach [e2] X.env := by rfl) (hpl : (backTo pos (starEach [e2] X.env)).any (·.1) = false := by rfl) :
    PI X (.Tuple elts kk tpos) (.Call (.Name "zip" p) [e, e2] [] pos) (iZipM K ta) := by
  subst hK
  refine ⟨fun pins s σ H R I h => Call_ (ld_blt I hg hm PyProof.Rows.boot_zip (PyProof.Rows.callWith_type1 (thn (ha.run pos pins s σ H _ I h) fun us s1 ⟨vs, H1, I1, r1, a, b, xs, ys, k1, k2, ex, hx, hy, q⟩ => ?_) hs hpl))⟩
  subst ex
  cases r1 with
  | cons r rr =>
    cases rr with
    | cons r2 rr =>
      cases rr
      cases r
      cases r2
      obtain ⟨its, _, p1, l1⟩ := seqK I1 hx
      obtain ⟨its2, _, p2, l2⟩ := seqK I1 hy
      refine call_zipM p1 p2 fun g st gk => wpAny_pyIter_zip st.1 ?_
      have sep : ZipSep2 (s1.heap.objs.size + 4) (s1.heap.objs.size + 2) (s1.heap.objs.size + 3) s1.heap.objs.size (s1.heap.objs.size + 1) [s1.heap.objs.size, a] [s1.heap.objs.size + 1, b] := zip_sep2 (fun c hc => by rw [List.mem_singleton.mp hc]; exact l1) (fun c hc => by rw [List.mem_singleton.mp hc]; exact l2)
      refine ⟨s1.heap.objs.size + 4, _, _, _, H1, rfl, I1.kept (t' := s1.toks) gk, turn_zipM sep (Nat.ne_of_lt l1) (Nat.ne_of_lt (Nat.lt_succ_of_lt l2)), st, fun c hcm => ?_, q⟩
      have hle : s1.heap.objs.size ≤ c := by
        rcases (show c = s1.heap.objs.size + 4 ∨ c = s1.heap.objs.size + 2 ∨ c = s1.heap.objs.size + 3 ∨ c = s1.heap.objs.size ∨ c = s1.heap.objs.size + 1 by simpa using hcm) with e | e | e | e | e <;> rw [e]
        · exact Nat.le_add_right _ _
        · exact Nat.le_add_right _ _
        · exact Nat.le_add_right _ _
        · exact Nat.le_refl _
        · exact Nat.le_add_right _ _
      exact I1.fpOk hle (I1.hok.fresh hle)
end ZipM
namespace Dl
open PySem PySem.Spec PyProof.Rows L2
variable {F : Fm} {ks : List Kd}
def seqD (k : Bool) (ds : List D) : D := if k then .tup ds else .lst ds
theorem sqK_same {k : Bool} {K : PySem.W.Frag} {H H' : Hp} {a : Addr} {xs : List V} (e : Same H H') (h : ZipM.SqK k K H a xs) : ZipM.SqK k K H' a xs := by
  cases k with
  | true => exact same_t e h
  | false => exact same_l e h
theorem at_seqD {K : PySem.W.Frag} {H : Hp} {k : Bool} {v : V} {ds : List D} (h : At K H v (seqD k ds)) : ∃ a us, v = .ref a ∧ ZipM.SqK k K H a us ∧ Ats K H us ds := by
  cases k with
  | true =>
    cases h with
    | tup h1 h2 => exact ⟨_, _, rfl, h1, h2⟩
  | false =>
    cases h with
    | lst h1 h2 => exact ⟨_, _, rfl, .inl (.inl h1), h2⟩
theorem itzm_ok {k1 k2 : Bool} {a b : Addr} {xs ys : List D} : ItOk F (ZipM.ItzM F.K k1 k2 a b) (zips xs ys) (fun G => (∃ us, ZipM.SqK k1 F.K G a us ∧ Ats F.K G us xs) ∧ ∃ us, ZipM.SqK k2 F.K G b us ∧ Ats F.K G us ys) where
  mono := fun G G' e ⟨⟨us, h1, h2⟩, ws, h3, h4⟩ => ⟨⟨us, sqK_same e h1, h2.mono e⟩, ws, sqK_same e h3, h4.mono e⟩
  go := fun M H i ⟨⟨us, h1, h2⟩, ws, h3, h4⟩ l => by
    rw [zips_length] at l
    have l1 : i < us.length := by rw [h2.length]; omega
    have l2 : i < ws.length := by rw [h4.length]; omega
    exact ⟨us, ws, us[i], ws[i], sqK_same hid_same h1, sqK_same hid_same h3, List.getElem?_eq_getElem l1, List.getElem?_eq_getElem l2⟩
  yld := fun M H i v H' d lv ⟨⟨us, h1, h2⟩, ws, h3, h4⟩ e y => by
    obtain ⟨T, x, y', rfl, nT, rfl, f1, f2⟩ := y
    obtain ⟨dx, dy, e1, e2, e3⟩ := zips_get e
    obtain ⟨vx, g1, g2⟩ := h2.get e1
    obtain ⟨vy, g3, g4⟩ := h4.get e2
    have k1 := f1 us (sqK_same hid_same h1)
    have k2 := f2 ws (sqK_same hid_same h3)
    rw [g1] at k1
    rw [g3] at k2
    cases k1; cases k2
    have sm : Same H (upd H T (.tup [x, y'])) := same_new nT
    have nM : T ∉ M := fun z => by
      obtain ⟨u, q⟩ := lv T z
      rw [nT] at q; cases q
    subst e3
    exact ⟨sm, .tup (.inl (.inl (by rw [hid_out nM, upd_same]))) (.cons (g2.mono (hid_mono sm)) (.cons (g4.mono (hid_mono sm)) .nil))⟩
  stop := fun M H ⟨⟨us, h1, h2⟩, ws, h3, h4⟩ => by
    refine ⟨us, ws, sqK_same hid_same h1, sqK_same hid_same h3, ?_⟩
    rw [zips_length, h2.length, h4.length]
    omega
theorem ei_zipM (k1 k2 : Bool) {ta : TA} {xs ys : List D} (h : EvA F ks ta [seqD k1 xs, seqD k2 ys]) : EvI F ks (ZipM.iZipM F.K ta) (zips xs ys) := fun M σ H o R q => h M σ H o _ fun vs ds H1 o1 s1 a1 e => by
  subst e
  cases a1 with
  | cons a1 a2 =>
    cases a2 with
    | cons a2 a3 =>
      cases a3
      obtain ⟨a, us, rfl, h1, h2⟩ := at_seqD a1
      obtain ⟨b, ws, rfl, h3, h4⟩ := at_seqD a2
      exact ⟨a, b, us, ws, k1, k2, rfl, sqK_same hid_same h1, sqK_same hid_same h3, q _ _ _ H1 o1 s1 rfl itzm_ok ⟨⟨us, h1, h2⟩, ws, h3, h4⟩⟩
end Dl
set_option Elab.async false
set_option linter.all false
set_option maxHeartbeats 2000000
/-! SolDef: kinds of values, lending a list, independent rows, sums with whole multiples. -/
namespace Dl
open PySem PySem.Spec PyProof.Rows L2
variable {F : Fm} {ks : List Kd}
/-- a list of one's own is read in a test -/
theorem et_lend {i : Nat} {ds : List D} {tt : TT} {b : Bool} (hk : ks[i]? = some (.own fun x => x = ds)) (only : (ks.set i (.dat (.lst ds))).all (fun k => !isM k) = true) (h : EvT F (ks.set i (.dat (.lst ds))) tt b) : EvT F ks tt b := fun M σ H o Q q => by
  obtain ⟨M', o'⟩ := o.freeze hk
  refine h M' σ H o' Q fun c H' o2 st r => ?_
  have e : Same H H' := fun a u hu => st a u hu fun ⟨j, k, hj, hm, _⟩ => by
    have := List.all_eq_true.mp only k (List.mem_of_getElem? hj)
    rw [hm] at this
    cases this
  exact q c H' (o.same e) (Step.of e) r
def isInt : D → Bool
  | .int _ => true
  | _ => false
def okT (d : D) : Prop := tyD d ≠ none
theorem int_kit {x : D} (h : okT x) : ∃ nm b1 b2, tyD x = some nm ∧ kitB nm "int" = some b1 ∧ kitB nm "bool" = some b2 ∧ (b1 && !b2) = isInt x := by
  cases x <;> first | exact ⟨_, _, _, rfl, rfl, rfl, rfl⟩ | exact absurd rfl h
def itOk (p : Int) : D → Bool
  | .int i => decide (0 ≤ i) && decide (i < p)
  | _ => false
def isRw (p : Int) (n : Nat) : D → Bool
  | .tup ds => decide (ds.length = n) && ds.all (itOk p)
  | _ => false
theorem isRw_tup (p : Int) (n : Nat) (es : List D) : isRw p n (.tup es) = (decide (es.length = n) && es.all (itOk p)) := rfl
theorem opv_isB {a b : Bool} : OpV F ks rIsB (.bl a) (.bl b) (fun d => d = .bl (decide (a = b))) := fun M σ H o v w h1 h2 Q q => by
  cases h1; cases h2
  exact ⟨a, b, rfl, rfl, q _ _ H o Step.refl (.bl _) rfl⟩
theorem opv_notB {a b : Bool} : OpV F ks rNotB (.bl a) (.bl b) (fun d => d = .bl (!decide (a = b))) := fun M σ H o v w h1 h2 Q q => by
  cases h1; cases h2
  exact ⟨a, b, rfl, rfl, q _ _ H o Step.refl (.bl _) rfl⟩
def optD : Option (List Int) → D
  | none => .non
  | some v => rw v
theorem comb_step {p a : Int} {n : Nat} (hp : 0 < p) {t r : List Int} (ht : Vc p n t) (hr : Vc p n r) : List.zipWith (fun x y => (x + a * y) % p) t r = mAdd p t (mScl p a r) := by
  have hl : (List.zipWith (fun x y => (x + a * y) % p) t r).length = n := by rw [List.length_zipWith, ht.1, hr.1, Nat.min_self]
  refine vext0 hl (ht.add' hp (hr.scl' hp)).1 fun k hk => ?_
  rw [cf_zip (fun x y => (x + a * y) % p) (by rw [ht.1, hr.1]) (by simp), cf_add (by rw [scl_len, ht.1, hr.1]), cf_scl, Int.add_emod_emod, Int.mul_comm a]
theorem dot_zip {p : Int} {v w : List Int} (h : v.length = w.length) : (List.zipWith (fun x y => x * y) v w).sum % p = mDot p v w := by
  unfold mDot
  rw [← map_range_zip (fun x y => x * y) h]
  rfl
def mInd (p : Int) (n : Nat) (rows : List (List Int)) : List (List Int) := rows.foldl (fun F r => if r ∈ mSpan p n F then F else F ++ [r]) []
theorem mInd_snoc (p : Int) (n : Nat) (rows : List (List Int)) (r : List Int) : mInd p n (rows ++ [r]) = if r ∈ mSpan p n (mInd p n rows) then mInd p n rows else mInd p n rows ++ [r] := by
  unfold mInd
  rw [List.foldl_append]
  rfl
theorem mInd_ok {p : Int} {n : Nat} (hP : PR p) (rows : List (List Int)) (hR : Vcs p n rows) : ∀ i, i ≤ rows.length → Vcs p n (mInd p n (rows.take i)) ∧ (mInd p n (rows.take i)).length ≤ i ∧ (spanL p n (mInd p n (rows.take i))).length = p.toNat ^ (mInd p n (rows.take i)).length
  | 0, _ => ⟨fun v hv => absurd hv (by simp [mInd]), by simp [mInd], by simp [mInd, spanL]⟩
  | i + 1, hi => by
    obtain ⟨h1, h2, h3⟩ := mInd_ok hP rows hR i (by omega)
    have e : rows.take (i + 1) = rows.take i ++ [rows[i]] := by rw [List.take_add_one, List.getElem?_eq_getElem (by omega : i < rows.length), Option.toList_some]
    rw [e, mInd_snoc]
    split
    · exact ⟨h1, by omega, h3⟩
    · rename_i c
      have hr := hR rows[i] (List.getElem_mem (by omega))
      rw [mem_mSpan] at c
      refine ⟨fun v hv => ?_, by rw [List.length_append]; show _ + 1 ≤ _; omega, ?_⟩
      · rcases List.mem_append.mp hv with h | h
        · exact h1 v h
        · rw [List.mem_singleton.mp h]; exact hr
      · rw [spanL_snoc]
        unfold spStep
        rw [if_neg c, flatMap_len _ p.toNat fun w => by rw [List.length_map, List.length_range], h3, List.length_append, ← Nat.pow_succ]
        rfl
/-- one solution alone -/
theorem single {α : Type} {l : List α} {t : α} (hn : l.Nodup) (h : ∀ x, x ∈ l ↔ x = t) : l = [t] := by
  cases l with
  | nil => exact absurd ((h t).mpr rfl) (by simp)
  | cons a r =>
    have e : a = t := (h a).mp List.mem_cons_self
    rw [List.nodup_cons] at hn
    cases r with
    | nil => rw [e]
    | cons b r =>
      have e2 : b = t := (h b).mp (by simp)
      exact absurd (by rw [e, e2]; exact List.mem_cons_self) hn.1
theorem mAll_nodup {p : Int} (n : Nat) (b : List Int → Bool) : ((mAll p n).filter b).Nodup := List.Pairwise.imp (fun {x y} h (e : x = y) => by
  subst e
  exact List.lt_irrefl _ h) (List.Pairwise.filter b (mAll_sorted (p := p) n))
abbrev rwL (v : List Int) : D := .lst (v.map D.int)
theorem rwL_inj (v w : List Int) (h : rwL v = rwL w) : v = w := rw_inj (by show D.tup _ = D.tup _; rw [D.lst.inj h])
theorem rwL_pln (v : List Int) : Pln 1 (rwL v) := Pln.lst (Pln.map fun x _ => Pln.int x 0)
theorem rwL_ok (v : List Int) : okD (rwL v) = true := (rwL_pln v).ok
theorem eqv_rwL (v w : List Int) : PyData.eqv (py (rwL v)) (py (rwL w)) = decide (v = w) := eqv_inj (f := rwL) rwL_inj (cln_lst (cln_map fun x _ => cln_int x)) (cln_lst (cln_map fun x _ => cln_int x)) (rwL_pln v).1
theorem paired_rg {lo hi : Int} {α : Type} : ∀ {xs : List α} {ds : List D}, Paired (fun _ d => ∃ r : Int, lo ≤ r ∧ r < hi ∧ d = .int r) xs ds → ∃ v : List Int, v.length = xs.length ∧ (∀ x ∈ v, lo ≤ x ∧ x < hi) ∧ ds = v.map D.int
  | _, _, .nil => ⟨[], rfl, fun x hx => absurd hx (by simp), rfl⟩
  | _, _, .cons ⟨r, h1, h2, e⟩ t => by
    obtain ⟨v, hv, hb, e2⟩ := paired_rg t
    refine ⟨r :: v, by rw [List.length_cons, List.length_cons, hv], fun x hx => ?_, by rw [e, e2]; rfl⟩
    rcases List.mem_cons.mp hx with e | h
    · rw [e]; exact ⟨h1, h2⟩
    · exact hb x h
/-- if c: (if x: return ..) else: (if y: return ..), and neither is so -/
theorem rs_guards {tt t1 t2 : TT} {s1 s2 u : TS} {b : Bool} {E : Ends} (h : EvT F ks tt b) (h1 : b = true → EvT F ks t1 false) (h2 : b = false → EvT F ks t2 false) (c : Run F ks u E) : Run F ks (tSeq (tIfS tt (tIfS t1 s1 tNext) (tIfS t2 s2 tNext)) u) E :=
  rs_ifE h (fun e => run_if (h1 e) (fun z => absurd z (by decide)) fun _ => run_next c) fun e => run_if (h2 e) (fun z => absurd z (by decide)) fun _ => run_next c
section
variable {p : Int} {n : Nat}
theorem sol_all (hP : PR p) {rows : List (List Int)} {right : List Int} (hR : Vcs p n rows) (hl : rows.length = right.length) {fits : List (List Int)} (hf : fits = (mAll p n).filter fun v => decide ((rows.map fun r => mDot p r v) = right.map fun g => g % p)) :
    (fits = [] → mSolve p n rows right = none) ∧ (fits ≠ [] → ∃ t, mSolve p n rows right = some t ∧ Vc p n t ∧ Fit p rows right t ∧ (∀ k : Nat, (k : Int) ∉ mPiv p n rows → cf t k = 0) ∧ ∀ v, Vc p n v → Fit p rows right v → (∀ k, k < n → (k : Int) ∉ mPiv p n rows → cf v k = 0) → v = t) := by
  have mem : ∀ v, v ∈ fits ↔ Vc p n v ∧ Fit p rows right v := fun v => by rw [hf, List.mem_filter, mem_mAll, decide_eq_true_iff]; exact Iff.rfl
  by_cases c : (n : Int) ∈ mPiv p (n + 1) (mWide p rows right)
  · refine ⟨fun _ => by unfold mSolve; rw [if_pos c], fun hne => ?_⟩
    obtain ⟨v, hv⟩ := List.exists_mem_of_ne_nil _ hne
    exact absurd ((mem v).mp hv).2 (fit_none hP hR hl c ((mem v).mp hv).1)
  · have hs := (solV_spec (right := right) hP hR c).2.1
    have hfit := sol_fit hP hR hl c
    refine ⟨fun e => ?_, fun _ => ⟨_, by unfold mSolve; rw [if_neg c], hs, hfit, fun k hk => sol_free hP hR hl c hk, fun v hv hf h0 => sol_uni hP hR hl c hv hf h0⟩⟩
    have := (mem _).mpr ⟨hs, hfit⟩
    rw [e] at this
    cases this
theorem fit_tot (hp : 0 < p) {rows : List (List Int)} (h : Vcs p n rows) {v w : List Int} (hv : Vc p n v) : Fit p (mTurn n rows) v w ↔ mTot p n rows w rows.length = v := by
  have key : ∀ k, mDot p (mCol rows k) w = cf (mTot p n rows w rows.length) k := fun k => by
    rw [mDot_sm, col_len, cf_tot hp h w k _ (Nat.le_refl _), sm_congr fun j hj => by rw [cf_col hj]]
  unfold Fit mTurn
  constructor
  · intro e
    refine vext0 (tot_vc hp h w _ (Nat.le_refl _)).1 hv.1 fun k hk => ?_
    have := congrArg (fun l => l[k]?) e
    rw [List.map_map, List.getElem?_map, List.getElem?_range hk, List.getElem?_map, List.getElem?_eq_getElem (by rw [hv.1]; exact hk)] at this
    rw [← key k, ← hv.md hp k, cf_lt (by rw [hv.1]; exact hk)]
    exact Option.some.inj this
  · intro e
    refine List.ext_getElem? fun k => ?_
    by_cases hk : k < n
    · rw [List.map_map, List.getElem?_map, List.getElem?_range hk, List.getElem?_map, List.getElem?_eq_getElem (by rw [hv.1]; exact hk)]
      have hk2 : k < v.length := by rw [hv.1]; exact hk
      show some (mDot p (mCol rows k) w) = some (v[k] % p)
      rw [key k, e, ← hv.md hp k, cf_lt (by rw [hv.1]; exact hk)]
    · rw [List.getElem?_eq_none (by simp; omega), List.getElem?_eq_none (by rw [List.length_map, hv.1]; omega)]
/-- independent rows: the multiples are told by the sum -/
theorem ind_uni (hP : PR p) {rows : List (List Int)} (h : Vcs p n rows) (hc : (spanL p n rows).length = p.toNat ^ rows.length) {w t : List Int} (hw : Vc p rows.length w) (ht : Vc p rows.length t) (e : mTot p n rows w rows.length = mTot p n rows t rows.length) : w = t := by
  have hp := hP.pos
  have hT := turn_vcs (n := n) hp h
  have h1 : (mRed p n rows).length = rows.length := pow_inj hP (by rw [← count_red hP h, hc])
  have h2 := ker_len hP hT
  rw [rank_turn hP h, h1] at h2
  have h3 : mKer p rows.length (mTurn n rows) = [] := List.eq_nil_of_length_eq_zero (by omega)
  have hd : InKer p rows.length (mTurn n rows) (mAdd p w (mScl p (-1) t)) := by
    refine ⟨hw.add' hp (ht.scl' hp), fun r hr => ?_⟩
    unfold mTurn at hr
    obtain ⟨k, hk, rfl⟩ := List.mem_map.mp hr
    have key : ∀ w, mDot p (mCol rows k) w = cf (mTot p n rows w rows.length) k := fun w => by
      rw [mDot_sm, col_len, cf_tot hp h w k _ (Nat.le_refl _), sm_congr fun j hj => by rw [cf_col hj]]
    rw [dot_add hp hw ht col_len, key, key, e, show cf (mTot p n rows t rows.length) k + -1 * cf (mTot p n rows t rows.length) k = 0 by omega, Int.zero_emod]
  rw [← ker_in hP hT, h3] at hd
  have nil : ∀ v, In p rows.length [] v → v = zer rows.length := fun v h => by
    cases h with
    | zero => rfl
    | add a _ h => cases h
  have hz := nil _ hd
  refine vext hp hw ht fun k => ?_
  have h5 := congrArg (fun z => cf z k) hz
  rw [cf_zer, cf_add (by rw [scl_len, hw.1, ht.1]), cf_scl, Int.add_emod_emod] at h5
  rw [show cf w k = (cf w k + cf t k * -1) + cf t k by omega, ← Int.emod_add_emod, h5, Int.zero_add]
end
end Dl
set_option Elab.async false
set_option linter.all false
set_option maxHeartbeats 2000000
/-! LinSum: the dimensions of the sum and the common part of two spaces. No program in sight. -/
namespace Dl
open PySem L2
section
variable {p : Int} {n : Nat}
theorem vcs_app {A B : List (List Int)} (hA : Vcs p n A) (hB : Vcs p n B) : Vcs p n (A ++ B) := fun x hx => by
  rcases List.mem_append.mp hx with h | h
  · exact hA x h
  · exact hB x h
theorem in_split (hp : 0 < p) {A B : List (List Int)} (hA : Vcs p n A) (hB : Vcs p n B) {v : List Int} (h : In p n (A ++ B) v) : ∃ u w, In p n A u ∧ In p n B w ∧ v = mAdd p u w := by
  induction h with
  | zero => exact ⟨zer n, zer n, .zero, .zero, (add_zer hp (Vc.zer hp)).symm⟩
  | add a hw hr ih =>
    rename_i x r
    obtain ⟨u, w, h1, h2, e⟩ := ih
    have uv := h1.vc hp hA
    have wv := h2.vc hp hB
    rcases List.mem_append.mp hr with h | h
    · have rv := (hA r h).scl' (a := a) hp
      refine ⟨mAdd p u (mScl p a r), w, .add a h1 h, h2, ?_⟩
      rw [e, ← add_assoc hp uv wv rv, add_comm' hp wv rv, add_assoc hp uv rv wv]
    · have rv := (hB r h).scl' (a := a) hp
      exact ⟨u, mAdd p w (mScl p a r), h1, .add a h2 h, by rw [e, add_assoc hp uv wv rv]⟩
theorem in_app (hP : PR p) {A B C : List (List Int)} (hA : Vcs p n A) (hB : Vcs p n B) (hC : Vcs p n C) (h1 : ∀ v, In p n A v → In p n C v) (h2 : ∀ r ∈ B, In p n C r) {v : List Int} (h : In p n (A ++ B) v) : In p n C v := h.mono hP.pos hC fun r hr => by
  rcases List.mem_append.mp hr with h | h
  · exact h1 r (In.row hP.pos hA hP.two h)
  · exact h2 r h
theorem in_left {A B : List (List Int)} {v : List Int} (h : In p n A v) : In p n (A ++ B) v := h.sub fun x hx => List.mem_append_left _ hx
theorem in_right {A B : List (List Int)} {v : List Int} (h : In p n B v) : In p n (A ++ B) v := h.sub fun x hx => List.mem_append_right _ hx
/-- spaces that meet in 0 alone -/
theorem rank_sum (hP : PR p) {A B : List (List Int)} (hA : Vcs p n A) (hB : Vcs p n B) (h0 : ∀ v, In p n A v → In p n B v → v = zer n) : (mRed p n (A ++ B)).length = (mRed p n A).length + (mRed p n B).length := by
  have hp := hP.pos
  have hF := (red_form hP hB).1
  have hV := red_vcs hP hB
  have hI := red_in hP hB
  have same : ∀ v, In p n (A ++ mRed p n B) v ↔ In p n (A ++ B) v := fun v =>
    ⟨fun h => in_app hP hA hV (vcs_app hA hB) (fun v h => in_left h) (fun r hr => in_right ((hI r).mp (In.row hp hV hP.two hr))) h,
     fun h => in_app hP hA hB (vcs_app hA hV) (fun v h => in_left h) (fun r hr => in_right ((hI r).mpr (In.row hp hB hP.two hr))) h⟩
  have key : ∀ i, i ≤ (mRed p n B).length → (spanL p n (A ++ (mRed p n B).take i)).length = (spanL p n A).length * p.toNat ^ i := by
    intro i
    induction i with
    | zero => intro _; rw [List.take_zero, List.append_nil, Nat.pow_zero, Nat.mul_one]
    | succ i ih =>
      intro hi
      have hT : Vcs p n ((mRed p n B).take i) := fun x hx => hV x (List.mem_of_mem_take hx)
      have hr : (mRed p n B)[i] ∈ mRed p n B := List.getElem_mem (by omega)
      have hg : (mRed p n B).getD i [] = (mRed p n B)[i] := by
        rw [List.getD_eq_getElem?_getD, List.getElem?_eq_getElem (by omega : i < (mRed p n B).length)]
        rfl
      have hc : ∀ r ∈ (mRed p n B).take i, cf r (mPv (mRed p n B)[i]) = 0 := by
        have := (hF.off1 (i := i) (by omega)).1
        rwa [hg] at this
      have c : (mRed p n B)[i] ∉ spanL p n (A ++ (mRed p n B).take i) := by
        rw [mem_spanL hP (vcs_app hA hT)]
        intro hin
        obtain ⟨u, w, h1, h2, e⟩ := in_split hp hA hT hin
        have uv := h1.vc hp hA
        have wv := h2.vc hp hT
        have hwB : In p n (mRed p n B) w := h2.sub fun x hx => List.mem_of_mem_take hx
        have eu : u = mAdd p (mRed p n B)[i] (mScl p (-1) w) := by
          rw [e, ← add_assoc hp uv wv (wv.scl' hp)]
          have hz : mAdd p w (mScl p (-1) w) = zer n := by
            refine vext hp (wv.add' hp (wv.scl' hp)) (Vc.zer hp) fun k => ?_
            rw [cf_add (by rw [scl_len]), cf_scl, cf_zer, Int.emod_emod, Int.add_emod_emod]
            congr 1
            omega
          rw [hz, add_zer hp uv]
        have hu : u = zer n := by
          refine h0 u h1 ((hI u).mp ?_)
          rw [eu]
          exact (In.row hp hV hP.two hr).sum hp hV (hwB.scl hp hV)
        have h3 := one_piv hF hr
        rw [e, hu, zer_add hp wv] at h3
        have h4 := in_at0 hp hT hc h2
        rw [e, hu, zer_add hp wv] at h4
        rw [h4] at h3
        cases h3
      rw [List.take_add_one, List.getElem?_eq_getElem (by omega : i < (mRed p n B).length), Option.toList_some, ← List.append_assoc, spanL_snoc]
      unfold spStep
      rw [if_neg c, flatMap_len _ p.toNat fun w => by rw [List.length_map, List.length_range], ih (by omega), Nat.pow_succ, Nat.mul_assoc]
  have k1 := key (mRed p n B).length (Nat.le_refl _)
  rw [List.take_length, count_red hP hA, count_red hP (vcs_app hA hV), ← Nat.pow_add] at k1
  rw [← (red_uni hP (vcs_app hA hV) (vcs_app hA hB) same).1]
  exact pow_inj hP k1
/-- the dimensions of the sum and of the common part -/
theorem rank_meet (hP : PR p) {A B C : List (List Int)} (hA : Vcs p n A) (hB : Vcs p n B) (hC : Vcs p n C) (h : ∀ v, In p n C v ↔ In p n A v ∧ In p n B v) : (mRed p n (A ++ B)).length + (mRed p n C).length = (mRed p n A).length + (mRed p n B).length := by
  have hp := hP.pos
  have hF := (red_form hP hC).1
  have hV := red_vcs hP hC
  have hI := red_in hP hC
  have h2v : Vcs p n (B.map (mRest p (mRed p n C))) := fun x hx => by
    obtain ⟨b, hb, rfl⟩ := List.mem_map.mp hx
    exact rest_vc hp hV (hB b hb)
  have dif : ∀ b ∈ B, ∃ u, In p n C u ∧ mRest p (mRed p n C) b = mAdd p b u ∧ b = mAdd p (mRest p (mRed p n C) b) (mScl p (-1) u) := fun b hb => by
    obtain ⟨u, hu, e⟩ := rest_diff hP hV (l := mRed p n C) (fun r h => h) (hB b hb)
    have uv := hu.vc hp hV
    refine ⟨u, (hI u).mp hu, e, ?_⟩
    rw [e, ← add_assoc hp (hB b hb) uv (uv.scl' hp)]
    have hz : mAdd p u (mScl p (-1) u) = zer n := by
      refine vext hp (uv.add' hp (uv.scl' hp)) (Vc.zer hp) fun k => ?_
      rw [cf_add (by rw [scl_len]), cf_scl, cf_zer, Int.emod_emod, Int.add_emod_emod]
      congr 1
      omega
    rw [hz, add_zer hp (hB b hb)]
  have in2 : ∀ r ∈ B.map (mRest p (mRed p n C)), In p n B r := fun r hr => by
    obtain ⟨b, hb, rfl⟩ := List.mem_map.mp hr
    obtain ⟨u, hu, e, _⟩ := dif b hb
    rw [e]
    exact (In.row hp hB hP.two hb).sum hp hB ((h u).mp hu).2
  have zr : ∀ v, In p n (mRed p n C) v → In p n (B.map (mRest p (mRed p n C))) v → v = zer n := fun v h1 h3 => in_zero hp hF hV h1 fun r hr => in_at0 hp h2v (fun x hx => by
    obtain ⟨b, hb, rfl⟩ := List.mem_map.mp hx
    obtain ⟨i, hi, e⟩ := hF.pvs hr
    rw [← e]
    exact rest_piv hp hF hV (hB b hb) hi) h3
  have s1 : ∀ v, In p n (mRed p n C ++ B.map (mRest p (mRed p n C))) v ↔ In p n B v := fun v =>
    ⟨fun k => in_app hP hV h2v hB (fun v k => ((h v).mp ((hI v).mp k)).2) in2 k, fun k => k.mono hp (vcs_app hV h2v) fun b hb => by
      obtain ⟨u, hu, _, e⟩ := dif b hb
      rw [e]
      exact (in_right (In.row hp h2v hP.two (List.mem_map.mpr ⟨b, hb, rfl⟩))).sum hp (vcs_app hV h2v) ((in_left ((hI u).mpr hu)).scl hp (vcs_app hV h2v))⟩
  have s2 : ∀ v, In p n (A ++ B.map (mRest p (mRed p n C))) v ↔ In p n (A ++ B) v := fun v =>
    ⟨fun k => in_app hP hA h2v (vcs_app hA hB) (fun v k => in_left k) (fun r hr => in_right (in2 r hr)) k, fun k => in_app hP hA hB (vcs_app hA h2v) (fun v k => in_left k) (fun b hb => by
      obtain ⟨u, hu, _, e⟩ := dif b hb
      rw [e]
      exact (in_right (In.row hp h2v hP.two (List.mem_map.mpr ⟨b, hb, rfl⟩))).sum hp (vcs_app hA h2v) ((in_left ((h u).mp hu).1).scl hp (vcs_app hA h2v))) k⟩
  have r1 := rank_sum hP hV h2v zr
  have r2 := rank_sum hP hA h2v fun v h1 h3 => zr v ((hI v).mpr ((h v).mpr ⟨h1, h3.mono hp hB in2⟩)) h3
  rw [(red_uni hP (vcs_app hV h2v) hB s1).1, red_red hP hC] at r1
  rw [(red_uni hP (vcs_app hA h2v) (vcs_app hA hB) s2).1] at r2
  omega
/-- the common part by kernels -/
theorem part_in (hP : PR p) {A B : List (List Int)} (hA : Vcs p n A) (hB : Vcs p n B) (v : List Int) : In p n (mKer p n (mKer p n A ++ mKer p n B)) v ↔ In p n A v ∧ In p n B v := by
  have ka := ker_vcs hP hA
  have kb := ker_vcs hP hB
  rw [ker_in hP (vcs_app ka kb)]
  have da : ∀ v, InKer p n (mKer p n A) v ↔ In p n A v := fun v => by rw [← ker_in hP ka, ker_ker hP hA, red_in hP hA]
  have db : ∀ v, InKer p n (mKer p n B) v ↔ In p n B v := fun v => by rw [← ker_in hP kb, ker_ker hP hB, red_in hP hB]
  rw [← da, ← db]
  exact ⟨fun h => ⟨⟨h.1, fun r hr => h.2 r (List.mem_append_left _ hr)⟩, ⟨h.1, fun r hr => h.2 r (List.mem_append_right _ hr)⟩⟩, fun h => ⟨h.1.1, fun r hr => by
    rcases List.mem_append.mp hr with k | k
    · exact h.1.2 r k
    · exact h.2.2 r k⟩⟩
end
end Dl
set_option Elab.async false
set_option linter.all false
set_option maxHeartbeats 2000000
/-! DlIns: instances as data: fields, methods, making one. -/
namespace Dl
open PySem PySem.Spec PyProof.Rows L2
variable {F : Fm} {ks : List Kd} {E : Ends}
theorem ev_fld {te : TE} {C : Addr} {gs : List (Str × D)} {f : Str} {d : D} (h : Ev F ks te (.ins C gs)) (hc : Cls F.K C) (hn : NoAttr F.K C f) (hl : gs.lookup f = some d) : Ev F ks (tFld F.K te f) d := fun M σ H o Q q => h M σ H o _ fun v d0 H1 o1 s1 a1 e1 => by
  subst e1
  cases a1 with
  | ins h1 h2 h3 =>
    obtain ⟨u, g1, g2⟩ := h3.lookup hl
    exact ⟨_, C, _, _, u, rfl, hid_same _ _ h1, hc, hn, g1, q u d H1 o1 s1 g2 rfl⟩
theorem ev_meth {S : List D → (D → Prop) → Prop} {Ex : XK} {te : TE} {ta : TA} {C : Addr} {m : Str} {gs : List (Str × D)} {es : List D} {T : D → Prop} (h : Ev F ks te (.ins C gs)) (hl : gs.lookup m = none) (ha : EvA F ks ta es) (hS : S (.ins C gs :: es) T) : EvR F ks (tMeth C m (spP S F.K) [] Ex te ta) T := fun M σ H o Q q => h M σ H o _ fun v d0 H1 o1 s1 a1 e1 => by
  subst e1
  cases a1 with
  | ins h1 h2 h3 =>
    refine ⟨_, _, _, rfl, hid_same _ _ h1, h3.none hl, ha M σ H1 o1 _ fun vs ds H2 o2 s2 a2 e2 => ?_⟩
    subst e2
    have mn := o1.hidStep s2
    have a0 : At F.K (hid M H2) (.ref _) (.ins C gs) := At.mono mn (.ins h1 h2 h3)
    refine ⟨M, .ins C gs :: ds, T, by rw [List.append_nil]; exact .cons a0 a2, o2.live, hS, fun d v H3 t3 e3 a3 => ?_⟩
    exact q v d H3 (o2.same e3) (s1.trans (s2.trans (Step.of e3))) a3 t3
/-- __init__: it fills a new instance -/
def spI (C : Addr) (S : List D → List (Str × D) → Prop) (K : PySem.W.Frag) : Sp := fun vs H Q _ => ∃ M x dx us ds gs, vs = .ref x :: us ∧ H x = some (.ins C dx []) ∧ H dx = some (.own x) ∧ x ∈ M ∧ dx ∈ M ∧ Ats K (hid M H) us ds ∧ (∀ a ∈ M, ∃ o, H a = some o) ∧ S ds gs ∧
  ∀ H' fs, (∀ b o, H b = some o → b ≠ x → H' b = some o) → H' x = some (.ins C dx fs) → AtF K (hid M H') fs gs → Q .non H'
theorem ev_make {S : List D → List (Str × D) → Prop} {Ex : XK} {ta : TA} {C : Addr} {gs : List (Str × D)} {es : List D} (ha : EvA F ks ta es) (hS : S es gs) : Ev F ks (tMake C (spI C S F.K) [] Ex ta) (.ins C gs) := fun M σ H o Q q => ha M σ H o _ fun vs ds H1 o1 s1 a1 e1 => by
  subst e1
  intro x dx nx ndx hne
  have nx' : (upd H1 dx (.own x)) x = none := by rw [upd_ne (fun e => hne e.symm)]; exact nx
  have hh : hid (x :: dx :: M) (upd (upd H1 dx (.own x)) x (.ins C dx [])) = hid M H1 := by rw [hid_new nx', hid_new ndx]
  have hdx : (upd (upd H1 dx (.own x)) x (.ins C dx [])) dx = some (.own x) := by rw [upd_ne hne]; exact upd_same
  refine ⟨x :: dx :: M, x, dx, vs, ds, gs, by rw [List.append_nil], upd_same, hdx, List.mem_cons_self, List.mem_cons_of_mem _ List.mem_cons_self, by rw [hh]; exact a1, fun a hm => ?_, hS, fun H2 fs k hx hf => ⟨rfl, ?_⟩⟩
  · rcases List.mem_cons.mp hm with e | hm
    · rw [e]; exact ⟨_, upd_same⟩
    · rcases List.mem_cons.mp hm with e | hm
      · rw [e]; exact ⟨_, hdx⟩
      · obtain ⟨u, hu⟩ := o1.live a hm
        have n1 : a ≠ x := fun e => by rw [e, nx] at hu; cases hu
        have n2 : a ≠ dx := fun e => by rw [e, ndx] at hu; cases hu
        exact ⟨u, by rw [upd_ne n1, upd_ne n2]; exact hu⟩
  · have sm : Same H1 H2 := fun b u hu => by
      have n1 : b ≠ x := fun e => by rw [e, nx] at hu; cases hu
      have n2 : b ≠ dx := fun e => by rw [e, ndx] at hu; cases hu
      exact k b u (by rw [upd_ne n1, upd_ne n2]; exact hu) n1
    refine q (.ref x) _ H2 (o1.same sm) (s1.trans (Step.of sm)) ?_ rfl
    refine .ins (dx := dx) (fs := fs) (by rw [hid_out (o1.fresh nx)]; exact hx) (by rw [hid_out (o1.fresh ndx)]; exact k dx _ hdx hne) ?_
    exact AtF.mono (hid_sub fun a ha => List.mem_cons_of_mem _ (List.mem_cons_of_mem _ ha)) hf
/-- the frame behind a field's store -/
theorem Ok.fld {M : List Addr} {σ : Sg} {H : Hp} (o : Ok F ks M σ H) {x : Addr} {u0 u : HO} (hm : x ∈ F.M0) (hb : F.B x = some u0) : Ok { F with B := upd F.B x u, G := hid M H } ks M σ (upd H x u) := by
  have hM : x ∈ M := o.sup x hm
  have hh : hid M (upd H x u) = hid M H := hid_upd hM
  have nx : ∀ {p : Addr}, F.B p = none → p ≠ x := fun e z => by rw [z, hb] at e; cases e
  have has : ∀ {y : Option (Option V)} {p : Addr} {φ : List D → Prop}, Has F M H y p φ → Has { F with B := upd F.B x u, G := hid M H } M (upd H x u) y p φ := fun ⟨h1, h2, h3, vs, ds, h4, h5, h6⟩ =>
    ⟨h1, h2, by show upd F.B x u _ = none; rw [upd_ne (nx h3)]; exact h3, vs, ds, by rw [upd_ne (nx h3)]; exact h4, by show Ats F.K (hid M (upd H x u)) vs ds; rw [hh]; exact h5, h6⟩
  have hN : ∀ (i : Nat) (χ : List (List D) → Prop), ks[i]? = some (.nst χ) → ∃ p qs, Nes { F with B := upd F.B x u, G := hid M H } M (upd H x u) σ[i]? p qs χ ∧ ∀ a ∈ p :: qs, ¬ OwnA ks σ a := fun i χ e => by
    obtain ⟨p, qs, h1, h2⟩ := o.nst i χ e
    have ne : ∀ a ∈ p :: qs, a ≠ x := fun a ha z => (h1.mem a ha).2.1 (by rw [z]; exact hm)
    exact ⟨p, qs, h1.to rfl rfl (fun a ha => ⟨(h1.mem a ha).1, (h1.mem a ha).2.1, by show upd F.B x u a = none; rw [upd_ne (ne a ha)]; exact (h1.mem a ha).2.2⟩) (fun a ha v g => by rw [upd_ne (ne a ha)]; exact g) (by rw [hh]; exact Same.refl _) (fun _ r => r), h2⟩
  refine ⟨o.len, fun i d e => ?_, fun i φ e => ?_, fun i φ e => ?_, o.inj, hN, o.one, fun b v e => ?_, ?_, o.sup, fun a ha => ?_⟩
  · obtain ⟨v, h1, h2⟩ := o.dat i d e
    exact ⟨v, h1, by show At F.K (hid M (upd H x u)) v d; rw [hh]; exact h2⟩
  · obtain ⟨p, h1, h2⟩ := o.own i φ e
    exact ⟨p, h1, has h2⟩
  · obtain ⟨p, h1, h2⟩ := o.bor i φ e
    exact ⟨p, h1, has h2⟩
  · by_cases c : b = x
    · subst c
      have e' : upd F.B b u b = some v := e
      rw [upd_same] at e' ⊢
      exact e'
    · have e' : upd F.B x u b = some v := e
      rw [upd_ne c] at e' ⊢
      exact o.base b v e'
  · show Same (hid M H) (hid M (upd H x u))
    rw [hh]
    exact Same.refl _
  · by_cases c : a = x
    · exact ⟨u, by rw [c]; exact upd_same⟩
    · obtain ⟨w, hw⟩ := o.live a ha
      exact ⟨w, by rw [upd_ne c]; exact hw⟩
theorem run_fld {x C dx : Addr} {te : TE} {f : Str} {d : D} {fs : List (Str × V)} (i : Nat) (hi : ks[i]? = some (.dat (.raw (.ref x)))) (hc : Cls F.K C) (hn : NoAttr F.K C f) (hm : x ∈ F.M0) (hb : F.B x = some (.ins C dx fs)) (hl : fs.length < 1000) (h : Ev F ks te d)
    (c : ∀ G v, Same F.G G → At F.K G v d → Cont { F with B := upd F.B x (.ins C dx (putF f v fs)), G := G } ks E.nx) : Run F ks (sFld F.K (tVar i) te f) E := fun M σ H o => h M σ H o _ fun v d1 H1 o1 s1 a1 e1 => by
  subst e1
  refine ev_var hi M σ H1 o1 _ fun y d2 H2 o2 s2 a2 e2 => ?_
  subst e2
  cases a2
  refine ⟨x, C, dx, fs, rfl, o2.base _ _ hb, hc, hn, hl, ?_⟩
  exact c (hid M H2) v o2.vis (At.mono (o1.hidStep s2) a1) M σ _ (o2.fld hm hb)
theorem rs_fld {x C dx : Addr} {te : TE} {f : Str} {d : D} {fs : List (Str × V)} {u : TS} (i : Nat) (hi : ks[i]? = some (.dat (.raw (.ref x)))) (hc : Cls F.K C) (hn : NoAttr F.K C f) (hm : x ∈ F.M0) (hb : F.B x = some (.ins C dx fs)) (hl : fs.length < 1000) (h : Ev F ks te d)
    (c : ∀ G v, Same F.G G → At F.K G v d → Run { F with B := upd F.B x (.ins C dx (putF f v fs)), G := G } ks u E) : Run F ks (tSeq (sFld F.K (tVar i) te f) u) E := run_seq (run_fld i hi hc hn hm hb hl h fun G v s a => c G v s a)
theorem cont_endI {H0 : Hp} {M0 : List Addr} {x C dx : Addr} {fs : List (Str × V)} {gs : List (Str × D)} {Q : VK} {N : Sg → Hp → Prop} (q : ∀ H' fs, (∀ b o, H0 b = some o → b ≠ x → H' b = some o) → H' x = some (.ins C dx fs) → AtF F.K (hid M0 H') fs gs → Q .non H') (hN : N = fun _ H' => Q .non H') (hB : ∀ b o, H0 b = some o → b ≠ x → F.B b = some o) (hM : F.M0 = M0)
    (hx : F.B x = some (.ins C dx fs)) (hf : AtF F.K F.G fs gs) : Cont F ks N := fun M σ H o => by
  subst hN
  refine q H fs (fun b u e n => o.base b u (hB b u e n)) (o.base _ _ hx) (AtF.mono (fun a u e => ?_) hf)
  exact hid_sub (fun a ha => o.sup a (by rw [hM]; exact ha)) a u (o.vis a u e)
end Dl
set_option Elab.async false
set_option linter.all false
set_option maxRecDepth 100000
set_option maxHeartbeats 2000000
/-! DlExc: exceptions and instances of the program's classes: promises of defs that may raise, raise, try. -/
namespace Dl
open PySem PySem.Spec PyProof.Rows L2
/-- where the top has put the class x -/
def clsA (K : PySem.W.Frag) (x : Str) : Addr := match PySem.W.nsIn K mainGlobals x with
  | some (some (.ref a)) => a
  | _ => 0
theorem clsA_of {K : PySem.W.Frag} {x : Str} {a : Addr} (h : PySem.W.nsIn K mainGlobals x = some (some (.ref a))) : clsA K x = a := by unfold clsA; rw [h]
/-- what is raised: an error without a dict of its own; with one -/
inductive Ex where
  | pl (C : Addr)
  | fl (C : Addr) (fs : List (Str × D))
def ExAt (K : PySem.W.Frag) (H : Hp) (cls : Value) (d : Option Addr) (z : Ex) : Prop := match z with
  | .pl C => cls = .ref C ∧ d = none
  | .fl C fs => cls = .ref C ∧ ∃ dd gs, d = some dd ∧ H dd = some (.xd gs) ∧ AtF K H gs fs
theorem ExAt.mono {K : PySem.W.Frag} {H H' : Hp} {cls : Value} {d : Option Addr} {z : Ex} (e : Same H H') (h : ExAt K H cls d z) : ExAt K H' cls d z := by
  cases z with
  | pl C => exact h
  | fl C fs =>
    obtain ⟨h1, dd, gs, h2, h3, h4⟩ := h
    exact ⟨h1, dd, gs, h2, e _ _ h3, h4.mono e⟩
def Ex.cls : Ex → Addr
  | .pl C => C
  | .fl C _ => C
theorem ExAt.cls {K : PySem.W.Frag} {H : Hp} {c : Value} {d : Option Addr} {z : Ex} (h : ExAt K H c d z) : c = .ref z.cls := by
  cases z with
  | pl C => exact h.1
  | fl C fs => exact h.1
section
variable {F : Fm} {ks : List Kd} {E : Ends}
/-- an exception z, raised where ks holds, is taken -/
def Out (F : Fm) (ks : List Kd) (W : WX) (z : Ex) : Prop := ∀ M σ H cls d, Ok F ks M σ H → ExAt F.K (hid M H) cls d z → W cls d σ H
/-- .. each answer of T, or each exception of Z -/
def spX (S : List D → (D → Prop) → (Ex → Prop) → Prop) (K : PySem.W.Frag) : Sp := fun vs H Q E => ∃ M ds T Z, Ats K (hid M H) vs ds ∧ (∀ a ∈ M, ∃ o, H a = some o) ∧ S ds T Z ∧ (∀ d v H', T d → Same H H' → At K (hid M H') v d → Q v H') ∧
  ∀ z cls d H', Z z → Same H H' → ExAt K (hid M H') cls d z → E cls d H'
theorem ev_callXR {S : List D → (D → Prop) → (Ex → Prop) → Prop} {W : WX} {ta : TA} {Ra : List D → Prop} {R : D → Prop} (h : EvAR F ks ta Ra) (hS : ∀ ds, Ra ds → ∃ T Z, S ds T Z ∧ (∀ d, T d → R d) ∧ ∀ z, Z z → Out F ks W z) : EvR F ks (tCallS (spX S F.K) (WE W) ta) R := fun M σ H o Q q => h M σ H o _ fun vs ds H1 o1 s1 a1 e => by
  obtain ⟨T, Z, g1, g2, g3⟩ := hS ds e
  exact ⟨M, ds, T, Z, a1, o1.live, g1, fun d v H' t sm a => q v d H' (o1.same sm) (s1.trans (.of sm)) a (g2 d t), fun z cls d H' hz sm ha => g3 z hz M σ H' cls d (o1.same sm) ha⟩
theorem ev_callX {S : List D → (D → Prop) → (Ex → Prop) → Prop} {W : WX} {ta : TA} {ds : List D} {T : D → Prop} {Z : Ex → Prop} (h : EvA F ks ta ds) (hS : S ds T Z) (hW : ∀ z, Z z → Out F ks W z) : EvR F ks (tCallS (spX S F.K) (WE W) ta) T := ev_callXR h fun es e => ⟨T, Z, by rw [e]; exact hS, fun _ t => t, hW⟩
/-- .. that raises nothing here -/
theorem ev_callNR {S : List D → (D → Prop) → (Ex → Prop) → Prop} {Ex0 : XK} {ta : TA} {Ra : List D → Prop} {R : D → Prop} (h : EvAR F ks ta Ra) (hS : ∀ ds, Ra ds → ∃ T Z, S ds T Z ∧ (∀ d, T d → R d) ∧ ∀ z, ¬ Z z) : EvR F ks (tCall (spX S F.K) [] Ex0 ta) R := fun M σ H o Q q => h M σ H o _ fun vs ds H1 o1 s1 a1 e => by
  obtain ⟨T, Z, g1, g2, g3⟩ := hS ds e
  exact ⟨M, ds, T, Z, by rw [List.append_nil]; exact a1, o1.live, g1, fun d v H' t sm a => q v d H' (o1.same sm) (s1.trans (.of sm)) a (g2 d t), fun z cls d H' hz sm ha => absurd hz (g3 z)⟩
theorem ev_callN {S : List D → (D → Prop) → (Ex → Prop) → Prop} {Ex0 : XK} {ta : TA} {ds : List D} {T : D → Prop} {Z : Ex → Prop} (h : EvA F ks ta ds) (hS : S ds T Z) (hZ : ∀ z, ¬ Z z) : EvR F ks (tCall (spX S F.K) [] Ex0 ta) T := ev_callNR h fun es e => ⟨T, Z, by rw [e]; exact hS, fun _ t => t, hZ⟩
/-- the def's own way out -/
theorem out_E {H0 : Hp} {M0 : List Addr} {E0 : XK} {Z : Ex → Prop} {z : Ex} (q : ∀ z cls d H', Z z → Same H0 H' → ExAt F.K (hid M0 H') cls d z → E0 cls d H') (hb : Same H0 F.B) (hm : F.M0 = M0) (hz : Z z) : Out F ks (fun cls d _ H => E0 cls d H) z := fun M σ H cls d o e =>
  q z cls d H hz (hb.trans o.base) (e.mono (hid_sub fun b hb => o.sup b (by rw [hm]; exact hb)))
/-- raise X('..'), X an own class without __init__ -/
structure ExcT (K : PySem.W.Frag) (mg : Str → Option Value) (x : Str) : Prop where
  ex : PySem.W.excIn K (clsA K x) [.type "ValueError", .type "Exception", .type "BaseException", .type "object"] "ValueError.__new__" = true
  g : mg x = some (.ref (clsA K x))
  k : PySem.W.keepIn K (.ref (clsA K x)) = true
  b : PySem.W.subIn K (.ref (clsA K x)) (.type "BaseException") = some true
  t : PySem.W.typeIn K (.ref (clsA K x)) = some (.type "type")
def tRaiseP (C : Addr) (W : WX) : TS := fun _ σ H => W (.ref C) none σ H
theorem ps_raiseP {X : Cx} {W : WX} {x m : Str} {j : Nat} {p p2 pos pos2 : Pos} (T : ExcT X.K X.mg x) (hc : X.calm = true) (tk : Takes X W) (hg : Gl X x) (hdb : (x == ("__debug__" : Str)) = false := by decide) :
    PS X (.Raise (some (.Call (.Name x p) [.Constant (.str m) j p2] [] pos)) none pos2) (tRaiseP (clsA X.K x) W) := ps_raise hc tk (pmk_own PySem.F.excBase_ValueError T.ex T.g T.k (raises_own T.b T.t) hg hdb)
theorem run_raiseP {C : Addr} {W : WX} (h : Out F ks W (.pl C)) : Run F ks (tRaiseP C W) E := fun M σ H o => h M σ H _ _ o ⟨rfl, rfl⟩
/-- try .. except x -/
def tTryO (K : PySem.W.Frag) (c : Value) (ts : Addr → Value → Option Addr → TS) (Wout : WX) (tb : WX → TS) : TS := fun D σ H => tb (wOnly K c ts Wout D) D σ H
theorem ps_tryO {X : Cx} {x : Str} {c : Value} {body suite : List Stmt} {b₀ : Stmt} {np pos pos' : Pos} {tb : WX → TS} {ts : Addr → Value → Option Addr → TS} {Wout : WX} (hs : X.stack = X.env :: X.outer) (hf : X.env.frame = some X.env.locals) (hc : Names X x c) (tk : Takes X Wout)
    (hb : ∀ (W : WX) (pn : List (Addr × Obj)) (xe : Value → Shared → Prop), Takes (X.tr pn xe) W → PassesOwn (model X.prog X.w) X.A X.env xe → PSs (X.tr pn xe) body (tb W))
    (hsu : ∀ (a : Addr) (oe : Obj) (cls : Value) (d : Option Addr) (pn : List (Addr × Obj)), Zc cls d oe → (∃ vs, oe.data = .fields vs) → PSs (X.suite a ((a, oe) :: pn)) (b₀ :: suite) (ts a cls d)) :
    PS X (.Try body [.ExceptHandler (some (.Name x np)) none (b₀ :: suite) pos'] [] [] pos) (tTryO X.K c ts Wout tb) := ps_try_only hs hf hc tk hb hsu
theorem run_tryO {K : PySem.W.Frag} {c : Value} {ts : Addr → Value → Option Addr → TS} {Wout : WX} {tb : WX → TS} (h : ∀ W, W = wOnly K c ts Wout E → Run F ks (tb W) E) : Run F ks (tTryO K c ts Wout tb) E := h _ rfl
theorem rs_tryO {K : PySem.W.Frag} {c : Value} {ts : Addr → Value → Option Addr → TS} {Wout : WX} {tb : WX → TS} {u : TS} (h : ∀ W, W = wOnly K c ts Wout { E with nx := u E } → Run F ks (tb W) { E with nx := u E }) : Run F ks (tSeq (tTryO K c ts Wout tb) u) E := h _ rfl
theorem out_only {c : Value} {ts : Addr → Value → Option Addr → TS} {Wout W : WX} {z : Ex} (hW : W = wOnly F.K c ts Wout E) (hx : PySem.W.exmOne F.K (.ref z.cls) c = some true) (hs : ∀ a d, Run F ks (ts a (.ref z.cls) d) E) : Out F ks W z := fun M σ H cls d o e => by
  subst hW
  refine ⟨true, by rw [e.cls]; exact hx, fun _ a _ => ?_, fun q => nomatch q⟩
  rw [e.cls]
  exact hs a d M σ H o
end
/-! ### classes -/
/-- the method m of the class at C keeps sp -/
def Dm (P : Program) (w : World) (K : PySem.W.Frag) (mg : Str → Option Value) (base : Heap) (C : Addr) (m : Str) (k : Nat) (ps : List Str) (sp : Sp) : Prop :=
  Cls K C ∧ ∃ f fd, FnOk P w K mg base (L2.CX P w) k f fd ps sp ∧ Meth K C m f ∧ Binds K fd ps []
theorem pe_methD {X : Cx} {C : Addr} {k : Nat} {m : Str} {ps : List Str} {sp : Sp} {apos pos : Pos} {o e : Expr} {es : List Expr} {te : TE} {t : TA} {pl : Sem Bool} (h : Dm X.prog X.w X.K X.mg X.base C m k ps sp) (hr : Room k X.A) (ho : PE X o te) (ha : PA X (e :: es) t)
    (hst : starEach (e :: es) X.env = (false, eval e X.env) :: starEach es X.env := by rfl) (hpl : (backTo pos (starEach es X.env)).any (·.1) = false := by rfl)
    (ht : eval (.Call (.Attribute o m apos) (e :: es) [] pos) X.env = (do
      let ov ← eval o X.env
      standAt apos.atName
      let (f, first) ← holding [ov] (getMethod ov m pl)
      callWith pos f first (backTo pos (starEach (e :: es) X.env)) (backToKw pos (keywordEach [] X.env))) := by rfl) :
    PE X (.Call (.Attribute o m apos) (e :: es) [] pos) (tMeth C m sp [] E0 te t) := by
  obtain ⟨c, f, fd, G, hm, hb⟩ := h
  exact pe_meth ho c hm G hr hb .nil passL ha hst hpl ht
theorem pe_methD0 {X : Cx} {C : Addr} {k : Nat} {m : Str} {ps : List Str} {sp : Sp} {apos pos : Pos} {o : Expr} {te : TE} {pl : Sem Bool} (h : Dm X.prog X.w X.K X.mg X.base C m k ps sp) (hr : Room k X.A) (ho : PE X o te)
    (ht : eval (.Call (.Attribute o m apos) [] [] pos) X.env = (do
      let ov ← eval o X.env
      standAt apos.atName
      let (f, first) ← holding [ov] (getMethod ov m pl)
      callWith pos f first (backTo pos (starEach [] X.env)) (backToKw pos (keywordEach [] X.env))) := by rfl) :
    PE X (.Call (.Attribute o m apos) [] [] pos) (tMeth C m sp [] E0 te tNil) := by
  obtain ⟨c, f, fd, G, hm, hb⟩ := h
  exact pe_meth0 ho c hm G hr hb .nil passL ht
/-- making the class x -/
def Dk (P : Program) (w : World) (K : PySem.W.Frag) (mg : Str → Option Value) (base : Heap) (x : Str) (k : Nat) (ps : List Str) (sp : Sp) : Prop :=
  ∃ f fd, Mk K (clsA K x) f ∧ FnOk P w K mg base (L2.CX P w) k f fd ps sp ∧ mg x = some (.ref (clsA K x)) ∧ Binds K fd ps []
theorem pe_makeD {X : Cx} {k : Nat} {x : Str} {ps : List Str} {sp : Sp} {p pos : Pos} {e : Expr} {es : List Expr} {t : TA} (h : Dk X.prog X.w X.K X.mg X.base x k ps sp) (hr : Room (k + 1) X.A) (hg : Gl X x) (ha : PA X (e :: es) t) (hdb : (x == ("__debug__" : Str)) = false := by decide)
    (he : starEach (e :: es) X.env = (false, eval e X.env) :: starEach es X.env := by rfl) (hpl : (backTo pos (starEach es X.env)).any (·.1) = false := by rfl) : PE X (.Call (.Name x p) (e :: es) [] pos) (tMake (clsA X.K x) sp [] E0 t) := by
  obtain ⟨f, fd, M, G, hm, hb⟩ := h
  exact pe_make M G hr hg hm hb .nil passL ha hdb he hpl
/-- a def that may raise, called where W takes what it raises -/
theorem pe_callX {X : Cx} {W : WX} {k : Nat} {ps : List Str} {sp : Sp} {x : Str} {p pos : Pos} {e : Expr} {es : List Expr} {t : TA} (h : Df X.prog X.w X.K X.mg X.base x k ps sp) (hr : Room k X.A) (tk : Takes X W) (hg : Gl X x) (ha : PA X (e :: es) t) (hdb : (x == ("__debug__" : Str)) = false := by decide)
    (he : starEach (e :: es) X.env = (false, eval e X.env) :: starEach es X.env := by rfl) (hpl : (backTo pos (starEach es X.env)).any (·.1) = false := by rfl) : PE X (.Call (.Name x p) (e :: es) [] pos) (tCallS sp (WE W) t) := by
  obtain ⟨f, fd, G, hm, hk, hb⟩ := h
  exact pe_callS G hr hg hm hk hb (fun σ => passAt tk σ) ha hdb he hpl
/-! fields with the written part told -/
theorem pe_fldK {X : Cx} (K : PySem.W.Frag) {e : Expr} {f : Str} {pos : Pos} {te : TE} (he : PE X e te) (hK : X.K = K := by rfl) (hb : attributeBase e f X.env (eval e X.env) = eval e X.env := by rfl) : PE X (.Attribute e f pos) (tFld K te f) := by
  subst hK
  exact pe_fld he hb
theorem ps_fldK {X : Cx} (K : PySem.W.Frag) {o value : Expr} {f : Str} {pos pos' : Pos} {ta tv : TE} (ha : PE X o ta) (hv : PE X value tv) (hK : X.K = K := by rfl) (hs : swapsWith value (some (.Attribute o f pos')) pos.line X.env = pure false := by rfl) : PS X (.Assign [.Attribute o f pos'] value pos) (sFld K ta tv f) := by
  subst hK
  exact ps_fld ha hv hs
section
variable {F : Fm} {ks : List Kd} {E : Ends}
/-- a method that may raise, but does not here -/
theorem ev_methN {S : List D → (D → Prop) → (Ex → Prop) → Prop} {Ex0 : XK} {te : TE} {ta : TA} {C : Addr} {m : Str} {gs : List (Str × D)} {es : List D} {T : D → Prop} {Z : Ex → Prop} (h : Ev F ks te (.ins C gs)) (hl : gs.lookup m = none) (ha : EvA F ks ta es) (hS : S (.ins C gs :: es) T Z) (hZ : ∀ z, ¬ Z z) : EvR F ks (tMeth C m (spX S F.K) [] Ex0 te ta) T := fun M σ H o Q q => h M σ H o _ fun v d0 H1 o1 s1 a1 e1 => by
  subst e1
  cases a1 with
  | ins h1 h2 h3 =>
    refine ⟨_, _, _, rfl, hid_same _ _ h1, h3.none hl, ha M σ H1 o1 _ fun vs ds H2 o2 s2 a2 e2 => ?_⟩
    subst e2
    have mn := o1.hidStep s2
    have a0 : At F.K (hid M H2) (.ref _) (.ins C gs) := At.mono mn (.ins h1 h2 h3)
    refine ⟨M, .ins C gs :: ds, T, Z, by rw [List.append_nil]; exact .cons a0 a2, o2.live, hS, fun d v H3 t3 e3 a3 => ?_, fun z _ _ _ hz => absurd hz (hZ z)⟩
    exact q v d H3 (o2.same e3) (s1.trans (s2.trans (Step.of e3))) a3 t3
/-- __init__ that may raise -/
def spIX (C : Addr) (S : List D → (List (Str × D) → Prop) → (Ex → Prop) → Prop) (K : PySem.W.Frag) : Sp := fun vs H Q E => ∃ M x dx us ds T Z, vs = .ref x :: us ∧ H x = some (.ins C dx []) ∧ H dx = some (.own x) ∧ x ∈ M ∧ dx ∈ M ∧ Ats K (hid M H) us ds ∧ (∀ a ∈ M, ∃ o, H a = some o) ∧ S ds T Z ∧
  (∀ gs H' fs, T gs → (∀ b o, H b = some o → b ≠ x → H' b = some o) → H' x = some (.ins C dx fs) → AtF K (hid M H') fs gs → Q .non H') ∧
  ∀ z cls d H', Z z → (∀ b o, H b = some o → b ≠ x → H' b = some o) → ExAt K (hid M H') cls d z → E cls d H'
theorem ev_makeN {S : List D → (List (Str × D) → Prop) → (Ex → Prop) → Prop} {Ex0 : XK} {ta : TA} {C : Addr} {es : List D} {T : List (Str × D) → Prop} {Z : Ex → Prop} (ha : EvA F ks ta es) (hS : S es T Z) (hZ : ∀ z, ¬ Z z) : EvR F ks (tMake C (spIX C S F.K) [] Ex0 ta) (fun d => ∃ gs, T gs ∧ d = .ins C gs) := fun M σ H o Q q => ha M σ H o _ fun vs ds H1 o1 s1 a1 e1 => by
  subst e1
  intro x dx nx ndx hne
  have nx' : (upd H1 dx (.own x)) x = none := by rw [upd_ne (fun e => hne e.symm)]; exact nx
  have hh : hid (x :: dx :: M) (upd (upd H1 dx (.own x)) x (.ins C dx [])) = hid M H1 := by rw [hid_new nx', hid_new ndx]
  have hdx : (upd (upd H1 dx (.own x)) x (.ins C dx [])) dx = some (.own x) := by rw [upd_ne hne]; exact upd_same
  refine ⟨x :: dx :: M, x, dx, vs, ds, T, Z, by rw [List.append_nil], upd_same, hdx, List.mem_cons_self, List.mem_cons_of_mem _ List.mem_cons_self, by rw [hh]; exact a1, fun a hm => ?_, hS, fun gs H2 fs t k hx hf => ⟨rfl, ?_⟩, fun z _ _ _ hz => absurd hz (hZ z)⟩
  · rcases List.mem_cons.mp hm with e | hm
    · rw [e]; exact ⟨_, upd_same⟩
    · rcases List.mem_cons.mp hm with e | hm
      · rw [e]; exact ⟨_, hdx⟩
      · obtain ⟨u, hu⟩ := o1.live a hm
        have n1 : a ≠ x := fun e => by rw [e, nx] at hu; cases hu
        have n2 : a ≠ dx := fun e => by rw [e, ndx] at hu; cases hu
        exact ⟨u, by rw [upd_ne n1, upd_ne n2]; exact hu⟩
  · have sm : Same H1 H2 := fun b u hu => by
      have n1 : b ≠ x := fun e => by rw [e, nx] at hu; cases hu
      have n2 : b ≠ dx := fun e => by rw [e, ndx] at hu; cases hu
      exact k b u (by rw [upd_ne n1, upd_ne n2]; exact hu) n1
    refine q (.ref x) _ H2 (o1.same sm) (s1.trans (Step.of sm)) ?_ ⟨gs, t, rfl⟩
    refine .ins (dx := dx) (fs := fs) (by rw [hid_out (o1.fresh nx)]; exact hx) (by rw [hid_out (o1.fresh ndx)]; exact k dx _ hdx hne) ?_
    exact AtF.mono (hid_sub fun a ha => List.mem_cons_of_mem _ (List.mem_cons_of_mem _ ha)) hf
end
end Dl
set_option Elab.async false
set_option linter.all false
set_option maxRecDepth 100000
set_option maxHeartbeats 2000000
/-! DlNst: lists of lists of one's own: made, read, written, given up. -/
namespace Dl
open PySem PySem.Spec PyProof.Rows L2
section
variable {F : Fm} {ks : List Kd} {M : List Addr} {σ : Sg} {H H' : Hp} {E : Ends} {K : PySem.W.Frag}
theorem Rows.get : ∀ {qs : List Addr} {rs : List (List D)} {i : Nat} {r : List D}, Rows K M H qs rs → rs[i]? = some r → ∃ q vs, qs[i]? = some q ∧ H q = some (.lst vs) ∧ Ats K (hid M H) vs r
  | _, _, _, _, .nil, e => by simp at e
  | _, _, 0, _, .cons h1 h2 _, e => by
    simp at e
    subst e
    exact ⟨_, _, rfl, h1, h2⟩
  | _, _, i + 1, r, .cons _ _ h, e => by
    obtain ⟨q, vs, g1, g2⟩ := Rows.get (i := i) (r := r) h (by simpa using e)
    exact ⟨q, vs, by simpa using g1, g2⟩
theorem Rows.getI {qs : List Addr} {rs : List (List D)} {a : Int} {r : List D} (h : Rows K M H qs rs) (e : atI rs a = some r) : ∃ k q vs, ixN qs.length a = some k ∧ qs[k]? = some q ∧ atI (qs.map V.ref) a = some (.ref q) ∧ H q = some (.lst vs) ∧ Ats K (hid M H) vs r ∧ rs[k]? = some r := by
  unfold atI at e
  cases z : ixN rs.length a with
  | none => rw [z] at e; cases e
  | some k =>
    rw [z] at e
    obtain ⟨q, vs, g1, g2, g3⟩ := h.get (show rs[k]? = some r from e)
    refine ⟨k, q, vs, by rw [h.length]; exact z, g1, ?_, g2, g3, e⟩
    unfold atI
    rw [List.length_map, h.length, z]
    show (qs.map V.ref)[k]? = _
    rw [List.getElem?_map, g1]
    rfl
theorem Rows.set : ∀ {qs : List Addr} {rs : List (List D)} {i : Nat} {q : Addr} {vs : List V} {r : List D}, Rows K M H qs rs → qs.Nodup → qs[i]? = some q → q ∈ M → Ats K (hid M H) vs r → Rows K M (upd H q (.lst vs)) qs (rs.set i r)
  | _, _, _, _, _, _, .nil, _, e, _, _ => by simp at e
  | q0 :: qs, _ :: rs, 0, q, vs, r, .cons h1 h2 h, nd, e, hm, a => by
    have e' : q0 = q := by simpa using e
    subst e'
    rw [List.set_cons_zero]
    exact .cons upd_same (by rw [hid_upd hm]; exact a) (h.to (fun b hb o g => by rw [upd_ne (fun z => (List.nodup_cons.mp nd).1 (by rw [← z]; exact hb))]; exact g) (by rw [hid_upd hm]; exact Same.refl _))
  | q0 :: qs, _ :: rs, i + 1, q, vs, r, .cons h1 h2 h, nd, e, hm, a => by
    have e' : qs[i]? = some q := by simpa using e
    rw [List.set_cons_succ]
    refine .cons ?_ (by rw [hid_upd hm]; exact h2) (Rows.set h (List.nodup_cons.mp nd).2 e' hm a)
    rw [upd_ne (fun z => (List.nodup_cons.mp nd).1 (by rw [z]; exact List.mem_of_getElem? e'))]
    exact h1
theorem Rows.snoc {q : Addr} {vs : List V} {r : List D} : ∀ {qs : List Addr} {rs : List (List D)}, Rows K M H qs rs → H q = some (.lst vs) → Ats K (hid M H) vs r → Rows K M H (qs ++ [q]) (rs ++ [r])
  | _, _, .nil, h1, h2 => .cons h1 h2 .nil
  | _, _, .cons g1 g2 g, h1, h2 => .cons g1 g2 (Rows.snoc g h1 h2)
theorem Rows.ats {M' : List Addr} : ∀ {qs : List Addr} {rs : List (List D)}, Rows K M H qs rs → (∀ a ∈ qs, a ∉ M') → Same (hid M H) (hid M' H) → Ats K (hid M' H) (qs.map V.ref) (rs.map D.lst)
  | _, _, .nil, _, _ => .nil
  | _, _, .cons g1 g2 g, h, s => .cons (.lst (by rw [hid_out (h _ List.mem_cons_self)]; exact g1) (g2.mono s)) (Rows.ats g (fun a ha => h a (List.mem_cons_of_mem _ ha)) s)
theorem ownA_setK {i : Nat} {k' : Kd} {a : Addr} (h : isM k' = false) (z : OwnA (ks.set i k') σ a) : OwnA ks σ a := by
  obtain ⟨j, k, h1, h2, h3⟩ := z
  rcases getK h1 with ⟨rfl, l, q⟩ | ⟨n, q⟩
  · rw [← q, h] at h2; cases h2
  · exact ⟨j, k, q, h2, h3⟩
theorem nstGet {k' : Kd} {i j : Nat} {φ : List (List D) → Prop} (h : (ks.set i k')[j]? = some (.nst φ)) : (i = j ∧ k' = .nst φ) ∨ (i ≠ j ∧ ks[j]? = some (.nst φ)) := by
  rcases getK h with ⟨e, _, q⟩ | ⟨n, q⟩
  · exact .inl ⟨e, q⟩
  · exact .inr ⟨n, q⟩
theorem Ok.perm {M' : List Addr} (o : Ok F ks M σ H) (h : ∀ a, a ∈ M ↔ a ∈ M') : Ok F ks M' σ H := by
  have e : hid M H = hid M' H := by
    funext a
    by_cases q : a ∈ M
    · rw [hid_in q, hid_in ((h a).mp q)]
    · rw [hid_out q, hid_out fun z => q ((h a).mpr z)]
  refine ⟨o.len, fun i d g => by rw [← e]; exact o.dat i d g, fun i φ g => ?_, fun i φ g => ?_, o.inj, fun i φ g => ?_, o.one, o.base, by rw [← e]; exact o.vis, fun a z => (h a).mp (o.sup a z), fun a z => o.live a ((h a).mpr z)⟩
  · obtain ⟨p, h1, h2, h3, h4, vs, ds, h5, h6, h7⟩ := o.own i φ g
    exact ⟨p, h1, h2, (h p).mp h3, h4, vs, ds, h5, by rw [← e]; exact h6, h7⟩
  · obtain ⟨p, h1, h2, h3, h4, vs, ds, h5, h6, h7⟩ := o.bor i φ g
    exact ⟨p, h1, h2, (h p).mp h3, h4, vs, ds, h5, by rw [← e]; exact h6, h7⟩
  · obtain ⟨p, qs, h1, h2⟩ := o.nst i φ g
    exact ⟨p, qs, h1.to rfl rfl (fun a ha => ⟨(h a).mp (h1.mem a ha).1, (h1.mem a ha).2⟩) (fun _ _ _ z => z) (by rw [e]; exact Same.refl _) (fun _ r => r), h2⟩
/-- an item's item is written -/
theorem Ok.putN (o : Ok F ks M σ H) {i k : Nat} {φ ψ : List (List D) → Prop} (hk : ks[i]? = some (.nst φ)) {p q : Addr} {qs : List Addr} {rows : List (List D)} {vs : List V} {r : List D} (n : Nes F M H σ[i]? p qs (fun x => x = rows)) (hq : qs[k]? = some q)
    (a : Ats F.K (hid M H) vs r) (hf : ψ (rows.set k r)) : Ok F (ks.set i (.nst ψ)) M σ (upd H q (.lst vs)) := by
  have hl : i < ks.length := (List.getElem?_eq_some_iff.mp hk).1
  have hqs : q ∈ p :: qs := List.mem_cons_of_mem _ (List.mem_of_getElem? hq)
  have hqM := n.mem q hqs
  have nA : NstA ks σ H q := ⟨i, φ, p, qs, hk, n.at_, n.top, hqs⟩
  have nO : ¬ OwnA ks σ q := (o.nstSome nA).2.2.2.2
  have hh : hid M (upd H q (.lst vs)) = hid M H := hid_upd hqM.1
  have has : ∀ (j : Nat) (c : Kd) (χ : List D → Prop) (x : Addr), ks[j]? = some c → isM c = true → Has F M H σ[j]? x χ → Has F M (upd H q (.lst vs)) σ[j]? x χ := fun j c χ x e m ⟨h1, h2, h3, ws, ds, h4, h5, h6⟩ =>
    ⟨h1, h2, h3, ws, ds, by rw [upd_ne (fun z => nO (by rw [← z]; exact ⟨j, c, e, m, h1⟩))]; exact h4, by rw [hh]; exact h5, h6⟩
  have gk : ∀ (j : Nat) (c : Kd), isM c = true → (ks.set i (.nst ψ))[j]? = some c → ks[j]? = some c := fun j c m e => by
    rcases getK e with ⟨_, _, z⟩ | ⟨_, z⟩
    · rw [← z] at m; cases m
    · exact z
  refine ⟨by rw [List.length_set]; exact o.len, fun j d e => ?_, fun j χ e => ?_, fun j χ e => ?_, fun j l x y u e1 e2 m1 m2 s1 s2 => o.inj j l x y u (gk j x m1 e1) (gk l y m2 e2) m1 m2 s1 s2, fun j χ e => ?_, fun j l χ ξ e1 e2 => ?_, same_mut o.base hqM.2.2, by rw [hh]; exact o.vis, o.sup, fun b z => ?_⟩
  · rcases getK e with ⟨_, _, z⟩ | ⟨_, z⟩
    · cases z
    · rw [hh]
      exact o.dat j d z
  · obtain ⟨x, h1, h2⟩ := o.own j χ (gk j _ rfl e)
    exact ⟨x, h1, has j _ χ x (gk j _ rfl e) rfl h2⟩
  · obtain ⟨x, h1, h2⟩ := o.bor j χ (gk j _ rfl e)
    exact ⟨x, h1, has j _ χ x (gk j _ rfl e) rfl h2⟩
  · rcases nstGet e with ⟨rfl, z⟩ | ⟨ne, z⟩
    · cases z
      refine ⟨p, qs, ⟨n.at_, n.nd, n.mem, ?_, rows.set k r, ?_, hf⟩, fun b hb z => (o.nstSome ⟨_, φ, p, qs, hk, n.at_, n.top, hb⟩).2.2.2.2 (ownA_setK rfl z)⟩
      · rw [upd_ne (fun z => (List.nodup_cons.mp n.nd).1 (by rw [z]; exact List.mem_of_getElem? hq))]
        exact n.top
      · obtain ⟨rs, h1, h2⟩ := n.rows
        subst h2
        exact h1.set (List.nodup_cons.mp n.nd).2 hq hqM.1 a
    · exact absurd (o.one i j φ χ hk z) ne
  · have key : ∀ (j : Nat) (χ : List (List D) → Prop), (ks.set i (.nst ψ))[j]? = some (.nst χ) → j = i := fun j χ e => by
      rcases nstGet e with ⟨z, _⟩ | ⟨_, z⟩
      · exact z.symm
      · exact o.one j i χ φ z hk
    rw [key j χ e1, key l ξ e2]
  · by_cases e : b = q
    · exact ⟨_, by rw [e, upd_same]⟩
    · rw [upd_ne e]
      exact o.live b z
/-- xs[a][b] -/
theorem ev_ixN {i : Nat} {φ : List (List D) → Prop} {ti tj : TE} {a b : Int} {R : D → Prop} (hk : ks[i]? = some (.nst φ)) (hi : Ev F ks ti (.int a)) (hj : Ev F ks tj (.int b)) (h : ∀ rows, φ rows → ∃ r d, atI rows a = some r ∧ atI r b = some d ∧ R d) : EvR F ks (tOp (rIx F.K) (tOp (rIx F.K) (tVar i) ti) tj) R := fun M σ H o Q q => by
  obtain ⟨p, qs, n, _⟩ := o.nst i φ hk
  refine ⟨.ref p, n.at_, ?_⟩
  refine hi M σ H o _ fun v d H1 o1 s1 a1 e => ?_
  subst e
  cases a1
  obtain ⟨p', qs', n1, no⟩ := o1.nst i φ hk
  have e := n1.at_
  rw [n.at_] at e
  cases e
  obtain ⟨rows, hr, hφ⟩ := n1.rows
  obtain ⟨r, d, g1, g2, g3⟩ := h rows hφ
  obtain ⟨k, q1, vs, k0, k1, k2, k3, k4, _⟩ := hr.getI g1
  refine .inl ⟨p, _, a, V.ref q1, rfl, rfl, .inl (.inl n1.top), k2, ?_⟩
  refine hj M σ H1 o1 _ fun w d2 H2 o2 s2 a2 e => ?_
  subst e
  cases a2
  have k5 := k4.mono (o1.hidStep s2)
  have e : ∃ u, atI vs b = some u ∧ At F.K (hid M H2) u d := by
    unfold atI at g2 ⊢
    rw [k5.length]
    cases z : ixN r.length b with
    | none => rw [z] at g2; cases g2
    | some m =>
      rw [z] at g2
      exact k5.get g2
  obtain ⟨u, e1, e2⟩ := e
  exact .inl ⟨q1, vs, b, u, rfl, rfl, .inl (.inl (s2 _ _ k3 (no q1 (List.mem_cons_of_mem _ (List.mem_of_getElem? k1))))), e1, q u d H2 o2 (s1.trans s2) e2 g3⟩
/-- xs[a][b] = e -/
theorem run_setN {te ti tj : TE} {i : Nat} {φ ψ : List (List D) → Prop} {R : D → Prop} {a b : Int} (hk : ks[i]? = some (.nst φ)) (h : EvR F ks te R) (hi : Ev F ks ti (.int a)) (hj : Ev F ks tj (.int b))
    (hz : ∀ rows d, φ rows → R d → ∃ k m r, ixN rows.length a = some k ∧ rows[k]? = some r ∧ ixN r.length b = some m ∧ ψ (rows.set k (r.set m d))) (c : Cont F (ks.set i (.nst ψ)) E.nx) : Run F ks (tAsg te (gSub (tOp (rIx F.K) (tVar i) ti) tj rSetL)) E := fun M σ H o => h M σ H o _ fun v d H1 o1 s1 a1 r1 => by
  obtain ⟨p, qs, n, _⟩ := o1.nst i φ hk
  refine ⟨.ref p, n.at_, ?_⟩
  refine hi M σ H1 o1 _ fun w d2 H2 o2 s2 a2 e => ?_
  subst e
  cases a2
  obtain ⟨p', qs', n1, no⟩ := o2.nst i φ hk
  have e := n1.at_
  rw [n.at_] at e
  cases e
  obtain ⟨rows, hr, hφ⟩ := n1.rows
  obtain ⟨k, m, r, g1, g2, g3, g4⟩ := hz rows d hφ r1
  have ga : atI rows a = some r := by unfold atI; rw [g1]; exact g2
  obtain ⟨k', q1, vs, k0, k1, k2, k3, k4, k5⟩ := hr.getI ga
  rw [hr.length, g1] at k0
  cases k0
  have n2 : Nes F M H2 σ[i]? p qs' (fun x => x = rows) := ⟨n1.at_, n1.nd, n1.mem, n1.top, rows, hr, rfl⟩
  refine .inl ⟨p, _, a, V.ref q1, rfl, rfl, .inl (.inl n1.top), k2, ?_⟩
  refine hj M σ H2 o2 _ fun w d3 H3 o3 s3 a3 e => ?_
  subst e
  cases a3
  have n3 : Nes F M H3 σ[i]? p qs' (fun x => x = rows) := n2.to rfl rfl n2.mem (fun c hc o g => s3 c o g (no c hc)) (o2.hidStep s3) (fun _ r => r)
  have m3 := k4.mono (o2.hidStep s3)
  refine ⟨q1, vs, b, m, rfl, rfl, s3 _ _ k3 (no q1 (List.mem_cons_of_mem _ (List.mem_of_getElem? k1))), by rw [m3.length]; exact g3, ?_⟩
  exact c M σ _ (o3.putN hk n3 k1 (m3.set m ((a1.mono (o1.hidStep s2)).mono (o2.hidStep s3))) g4)
theorem rs_setN {te ti tj : TE} {i : Nat} {φ ψ : List (List D) → Prop} {R : D → Prop} {a b : Int} {u : TS} (hk : ks[i]? = some (.nst φ)) (h : EvR F ks te R) (hi : Ev F ks ti (.int a)) (hj : Ev F ks tj (.int b))
    (hz : ∀ rows d, φ rows → R d → ∃ k m r, ixN rows.length a = some k ∧ rows[k]? = some r ∧ ixN r.length b = some m ∧ ψ (rows.set k (r.set m d))) (c : Run F (ks.set i (.nst ψ)) u E) : Run F ks (tSeq (tAsg te (gSub (tOp (rIx F.K) (tVar i) ti) tj rSetL)) u) E := run_seq (run_setN hk h hi hj hz c)
/-- a list of lists that is not changed any more -/
theorem Ok.freezeN (o : Ok F ks M σ H) {i : Nat} {rows : List (List D)} (hk : ks[i]? = some (.nst fun x => x = rows)) : ∃ M', Ok F (ks.set i (.dat (.lst (rows.map D.lst)))) M' σ H := by
  obtain ⟨p, qs, n, no⟩ := o.nst i _ hk
  obtain ⟨rs, hr, e⟩ := n.rows
  subst e
  have hN : ∀ a ∈ p :: qs, NstA ks σ H a := fun a ha => n.nstA hk ha
  have sub : ∀ a, a ∈ M.filter (fun a => decide (a ∉ p :: qs)) → a ∈ M := fun a z => (List.mem_filter.mp z).1
  have np : ∀ a ∈ p :: qs, a ∉ M.filter (fun a => decide (a ∉ p :: qs)) := fun a ha z => of_decide_eq_true (List.mem_filter.mp z).2 ha
  have inn : ∀ a, a ∈ M → a ∉ p :: qs → a ∈ M.filter (fun a => decide (a ∉ p :: qs)) := fun a z n => List.mem_filter.mpr ⟨z, decide_eq_true n⟩
  have hne : ∀ (j : Nat) (c : Kd) (x : Addr), ks[j]? = some c → isM c = true → σ[j]? = some (some (.ref x)) → x ∉ p :: qs := fun j c x e m s z => no x z ⟨j, c, e, m, s⟩
  refine ⟨M.filter (fun a => decide (a ∉ p :: qs)), by rw [List.length_set]; exact o.len, fun j d e => ?_, fun j χ e => ?_, fun j χ e => ?_, fun j l x y q e1 e2 m1 m2 s1 s2 => ?_, fun j χ e => ?_, o.oneSet (fun ψ e => by cases e), o.base, o.vis.trans (hid_sub sub), fun a z => inn a (o.sup a z) (fun e => (n.mem a e).2.1 z), fun b z => o.live b (sub b z)⟩
  · rcases getK e with ⟨rfl, _, q⟩ | ⟨_, q⟩
    · cases q
      refine ⟨_, n.at_, .lst (by rw [hid_out (np p List.mem_cons_self)]; exact n.top) (hr.ats (fun a ha => np a (List.mem_cons_of_mem _ ha)) (hid_sub sub))⟩
    · obtain ⟨v, g1, g2⟩ := o.dat j d q
      exact ⟨v, g1, g2.mono (hid_sub sub)⟩
  · rcases getK e with ⟨rfl, _, q⟩ | ⟨_, q⟩
    · cases q
    · obtain ⟨p2, g1, g2, g3, g4, ws, fs, g5, g6, g7⟩ := o.own j χ q
      exact ⟨p2, g1, g2, inn p2 g3 (hne j _ p2 q rfl g2), g4, ws, fs, g5, g6.mono (hid_sub sub), g7⟩
  · rcases getK e with ⟨rfl, _, q⟩ | ⟨_, q⟩
    · cases q
    · obtain ⟨p2, g1, g2, g3, g4, ws, fs, g5, g6, g7⟩ := o.bor j χ q
      exact ⟨p2, g1, g2, inn p2 g3 (hne j _ p2 q rfl g2), g4, ws, fs, g5, g6.mono (hid_sub sub), g7⟩
  · rcases getK e1 with ⟨rfl, _, q1⟩ | ⟨n1, q1⟩
    · rw [← q1] at m1; cases m1
    · rcases getK e2 with ⟨rfl, _, q2⟩ | ⟨n2, q2⟩
      · rw [← q2] at m2; cases m2
      · exact o.inj j l x y q q1 q2 m1 m2 s1 s2
  · obtain ⟨ne, q⟩ := o.nstSet (v := none) (fun ψ e => by cases e) e
    exact absurd (o.one i j _ χ hk q) ne
theorem cont_freezeN {N : Sg → Hp → Prop} (i : Nat) {rows : List (List D)} (h : ks[i]? = some (.nst fun x => x = rows)) (c : Cont F (ks.set i (.dat (.lst (rows.map D.lst)))) N) : Cont F ks N := fun M σ H o => by
  obtain ⟨M', o'⟩ := o.freezeN h
  exact c M' σ H o'
theorem rs_freezeN (i : Nat) {rows : List (List D)} {t : TS} (h : ks[i]? = some (.nst fun x => x = rows)) (c : Run F (ks.set i (.dat (.lst (rows.map D.lst)))) t E) : Run F ks t E := cont_freezeN i h c
/-- what it holds now -/
theorem cont_openN {i : Nat} {φ : List (List D) → Prop} {N : Sg → Hp → Prop} (hk : ks[i]? = some (.nst φ)) (c : ∀ rows, φ rows → Cont F (ks.set i (.nst fun x => x = rows)) N) : Cont F ks N := fun M σ H o => by
  obtain ⟨p, qs, n, no⟩ := o.nst i φ hk
  obtain ⟨rows, hr, hφ⟩ := n.rows
  refine c rows hφ M σ H ⟨by rw [List.length_set]; exact o.len, fun j d e => ?_, fun j χ e => ?_, fun j χ e => ?_, fun j l x y q e1 e2 m1 m2 s1 s2 => ?_, fun j χ e => ?_, fun j l χ ξ e1 e2 => ?_, o.base, o.vis, o.sup, o.live⟩
  · rcases getK e with ⟨_, _, z⟩ | ⟨_, z⟩
    · cases z
    · exact o.dat j d z
  · rcases getK e with ⟨_, _, z⟩ | ⟨_, z⟩
    · cases z
    · exact o.own j χ z
  · rcases getK e with ⟨_, _, z⟩ | ⟨_, z⟩
    · cases z
    · exact o.bor j χ z
  · rcases getK e1 with ⟨_, _, z⟩ | ⟨_, z1⟩
    · rw [← z] at m1; cases m1
    · rcases getK e2 with ⟨_, _, z⟩ | ⟨_, z2⟩
      · rw [← z] at m2; cases m2
      · exact o.inj j l x y q z1 z2 m1 m2 s1 s2
  · rcases nstGet e with ⟨rfl, z⟩ | ⟨ne, z⟩
    · cases z
      exact ⟨p, qs, ⟨n.at_, n.nd, n.mem, n.top, rows, hr, rfl⟩, fun b hb z => no b hb (ownA_setK rfl z)⟩
    · exact absurd (o.one i j φ χ hk z) ne
  · have key : ∀ (j : Nat) (χ : List (List D) → Prop), (ks.set i (.nst fun x => x = rows))[j]? = some (.nst χ) → j = i := fun j χ e => by
      rcases nstGet e with ⟨z, _⟩ | ⟨_, z⟩
      · exact z.symm
      · exact o.one j i χ φ z hk
    rw [key j χ e1, key l ξ e2]
/-! ### made by a comprehension of comprehensions -/
def EvNR (F : Fm) (ks : List Kd) (te : TE) (R : List (List D) → Prop) : Prop := ∀ M σ H, Ok F ks M σ H → ∀ Q : VK, (∀ p qs rows H', H p = none → (∀ q ∈ qs, H q = none) → (p :: qs).Nodup → Ok F ks (p :: (qs ++ M)) σ H' → Step ks σ H H' → H' p = some (.lst (qs.map V.ref)) → Rows F.K (p :: (qs ++ M)) H' qs rows → R rows → Q (.ref p) H') → te σ H Q
abbrev EvN (F : Fm) (ks : List Kd) (te : TE) (rows : List (List D)) : Prop := EvNR F ks te (fun x => x = rows)
theorem EvNR.imp {te : TE} {R S : List (List D) → Prop} (h : EvNR F ks te R) (i : ∀ d, R d → S d) : EvNR F ks te S := fun M σ H o Q q => h M σ H o Q fun p qs rows H' a b c d e f g r => q p qs rows H' a b c d e f g (i rows r)
theorem EvN.to {te : TE} {d e : List (List D)} (h : EvN F ks te d) (i : d = e) : EvN F ks te e := by rw [← i]; exact h
structure FillN (F : Fm) (ks : List Kd) (M : List Addr) (σ : Sg) (H1 : Hp) (p : Addr) (qs : List Addr) (rows : List (List D)) (H : Hp) : Prop where
  ok : Ok F ks (p :: (qs ++ M)) σ H
  st : Step ks σ H1 H
  vis : Same (hid M H1) (hid (p :: (qs ++ M)) H)
  top : H p = some (.lst (qs.map V.ref))
  rows : Rows F.K (p :: (qs ++ M)) H qs rows
  nd : (p :: qs).Nodup
  new : ∀ q ∈ qs, H1 q = none
theorem en_map {α : Type} {wi : TI} {g : TG} {te : TE} {vs : List Nat} {xs : List α} {enc : α → D} {f : α → List D} (hi : EvI F ks wi (xs.map enc)) (hz : xs.length ≤ sizeLine)
    (hs : ∀ x ∈ xs, ∃ ks'', GW F g vs ks (enc x) ks'' ∧ EvL F ks'' te (f x)) : EvN F ks (tLc wi g tYes te vs) (xs.map f) := fun M σ H o Q q => by
  refine hi M σ H o _ fun J S items H1 o1 s1 r1 it sS p n => ?_
  subst r1
  have nO := o1.noOwn n
  have nB := o1.baseNone n
  have npM : p ∉ M := o1.fresh n
  refine ⟨fun i m H' => m = (xs.map enc).length - i ∧ i ≤ (xs.map enc).length ∧ ∃ qs, FillN F ks M σ H1 p qs ((xs.take i).map f) H', ⟨_, rfl, Nat.zero_le _, [], o1.hide n, .of (same_new n), by rw [List.nil_append, hid_new n]; exact Same.refl _, upd_same, by rw [List.take_zero]; exact .nil, by simp, fun q hq => nomatch hq⟩, ?_⟩
  rintro i m H' ⟨rfl, hle, qs, fl⟩
  have hS : S (hid (p :: (qs ++ M)) H') := it.mono _ _ fl.vis sS
  by_cases hlt : i < (xs.map enc).length
  · refine .inr ⟨it.go _ H' i hS hlt, fun H'' => ∃ qs', FillN F ks M σ H1 p qs' ((xs.take (i + 1)).map f) H'', fun H2 n => ⟨(xs.map enc).length - (i + 1), by omega, rfl, hlt, n⟩, fun x H2 y => ?_⟩
    have hl : i < xs.length := by rw [List.length_map] at hlt; exact hlt
    have ex : xs[i]? = some xs[i] := List.getElem?_eq_getElem hl
    have e : (xs.map enc)[i]? = some (enc xs[i]) := by rw [List.getElem?_map, ex]; rfl
    obtain ⟨sm, a⟩ := it.yld _ H' i x H2 _ fl.ok.live hS e y
    obtain ⟨ks'', hg, he⟩ := hs xs[i] (List.getElem_mem hl)
    refine hg _ σ H2 x (fl.ok.same sm) a _ fun σ' o3 w r => ⟨w, ?_⟩
    refine et_yes _ σ' H2 o3 _ fun c0 H3 o4 s4 ec => ?_
    subst ec
    rw [if_pos rfl]
    refine he _ σ' H3 o4 _ fun q1 ws ds H4 n4 o5 s5 l5 a5 r5 => ?_
    subst r5
    have st3 : Step ks'' σ' H' H3 := (Step.of sm).trans s4
    have st4 : Step ks'' σ' H' H4 := st3.trans s5
    have obk : Ok F ks (p :: (qs ++ M)) σ H3 := fl.ok.back o4 st3 r
    have nOp : ¬ OwnA ks'' σ' p := fun z => nO (r.own z)
    have old : ∀ b, H1 b = none → ¬ OwnA ks σ b := fun b hb z => by
      obtain ⟨u, hu⟩ := o1.live b (o1.ownM z)
      rw [hb] at hu
      cases hu
    have nOq : ∀ b ∈ p :: qs, ¬ OwnA ks'' σ' b := fun b hb z => by
      rcases List.mem_cons.mp hb with e | hb
      · exact nOp (by rw [← e]; exact z)
      · exact old b (fl.new b hb) (r.own z)
    have liveq : ∀ b ∈ p :: (qs ++ M), ∃ u, H3 b = some u := obk.live
    have nq : q1 ∉ p :: (qs ++ M) := fun z => by
      obtain ⟨u, hu⟩ := liveq q1 z
      rw [n4] at hu
      cases hu
    have nq1 : H1 q1 = none := by
      cases z : H1 q1 with
      | none => rfl
      | some u =>
        have h1 := fl.st _ _ z (fun z2 => by
          obtain ⟨u2, hu⟩ := liveq q1 (List.mem_cons_of_mem _ (List.mem_append_right _ (o1.ownM z2)))
          rw [n4] at hu
          cases hu)
        have h2 := st3 _ _ h1 (fun z2 => by
          obtain ⟨u2, hu⟩ := liveq q1 (List.mem_cons_of_mem _ (List.mem_append_right _ (o1.ownM (r.own z2))))
          rw [n4] at hu
          cases hu)
        rw [n4] at h2
        cases h2
    have stu : Step ks'' σ' (upd H3 q1 (.lst ws)) H4 := fun b u hb no => by
      by_cases z : b = q1
      · subst z
        rw [upd_same] at hb
        cases hb
        exact l5
      · rw [upd_ne z] at hb
        exact s5 b u hb no
    have ob2 : Ok F ks (q1 :: p :: (qs ++ M)) σ H4 := (obk.hide n4).back o5 stu r
    have hp4 : H4 p = some (.lst (qs.map V.ref)) := st4 _ _ fl.top nOp
    have stA : Step ks σ H1 H4 := fun b u h no => st4 b u (fl.st b u h no) fun z => no (r.own z)
    have ob3 := ob2.put (p := p) (u := .lst (qs.map V.ref ++ [V.ref q1])) (List.mem_cons_of_mem _ List.mem_cons_self) nB nO (o1.nstFresh stA n)
    have pm : ∀ b, b ∈ q1 :: p :: (qs ++ M) ↔ b ∈ p :: ((qs ++ [q1]) ++ M) := fun b => by
      simp only [List.mem_cons, List.mem_append, List.not_mem_nil, or_false]
      constructor
      · rintro (h | h | h | h)
        · exact .inr (.inl (.inr h))
        · exact .inl h
        · exact .inr (.inl (.inl h))
        · exact .inr (.inr h)
      · rintro (h | (h | h) | h)
        · exact .inr (.inl h)
        · exact .inr (.inr (.inl h))
        · exact .inl h
        · exact .inr (.inr (.inr h))
    have ob4 := ob3.perm pm
    have eh : hid (p :: ((qs ++ [q1]) ++ M)) (upd H4 p (.lst (qs.map V.ref ++ [V.ref q1]))) = hid (q1 :: p :: (qs ++ M)) H4 := by
      rw [hid_upd List.mem_cons_self]
      funext b
      by_cases z : b ∈ q1 :: p :: (qs ++ M)
      · rw [hid_in z, hid_in ((pm b).mp z)]
      · rw [hid_out z, hid_out fun z2 => z ((pm b).mpr z2)]
    have hv : Same (hid (p :: (qs ++ M)) H') (hid (q1 :: p :: (qs ++ M)) H4) := fun b u hb => by
      obtain ⟨g1, g2⟩ := hid_some hb
      have nb : ¬ OwnA ks'' σ' b := fun z => g1 (List.mem_cons_of_mem _ (List.mem_append_right _ (o1.ownM (r.own z))))
      have g3 := st3 _ _ g2 nb
      have ne : b ≠ q1 := fun z => by
        rw [z, n4] at g3
        cases g3
      rw [hid_out (by
        intro z
        rcases List.mem_cons.mp z with z | z
        · exact ne z
        · exact g1 z)]
      exact st4 _ _ g2 nb
    have npq : ∀ b ∈ qs, b ≠ p := fun b hb z => (List.nodup_cons.mp fl.nd).1 (by rw [← z]; exact hb)
    have q1p : q1 ≠ p := fun z => nq (by rw [z]; exact List.mem_cons_self)
    refine ⟨_, hp4, ?_, qs ++ [q1], ob4, fun b u h no => ?_, ?_, ?_, ?_, ?_, fun b hb => ?_⟩
    · rw [List.length_map, fl.rows.length, List.length_map, List.length_take]
      omega
    · rw [upd_ne (ne_of_none h n)]
      exact stA b u h no
    · rw [eh]
      exact fl.vis.trans hv
    · rw [upd_same, List.map_append]
      rfl
    · rw [List.take_add_one, ex, List.map_append]
      refine Rows.snoc (vs := ws) (fl.rows.to (fun b hb u g => ?_) (by rw [eh]; exact hv)) ?_ ?_
      · rw [upd_ne (npq b hb)]
        exact st4 _ _ g (nOq b (List.mem_cons_of_mem _ hb))
      · rw [upd_ne q1p]
        exact l5
      · rw [eh]
        exact a5
    · rw [← List.cons_append]
      refine List.nodup_append.mpr ⟨fl.nd, by simp, fun b hb c hc e => ?_⟩
      have hc' : c = q1 := by simpa using hc
      rw [e, hc'] at hb
      rcases List.mem_cons.mp hb with z | z
      · exact q1p z
      · exact nq (List.mem_cons_of_mem _ (List.mem_append_left _ z))
    · rcases List.mem_append.mp hb with hb | hb
      · exact fl.new b hb
      · have hb' : b = q1 := by simpa using hb
        rw [hb']
        exact nq1
  · have e : i = (xs.map enc).length := by omega
    subst e
    have back : ∀ b, H1 b = none → H b = none := fun b hb => by
      cases z : H b with
      | none => rfl
      | some u =>
        have := s1 _ _ z (fun z2 => by
          obtain ⟨u2, hu⟩ := o1.live b (o1.ownM z2)
          rw [hb] at hu
          cases hu)
        rw [hb] at this
        cases this
    refine .inl ⟨it.stop _ H' hS, q p qs _ H' (back p n) (fun b hb => back b (fl.new b hb)) fl.nd fl.ok (s1.trans fl.st) fl.top fl.rows ?_⟩
    rw [List.length_map, List.take_length]
theorem run_asgNR {te : TE} {i : Nat} {R : List (List D) → Prop} (hno : ∀ j φ, ks[j]? = some (.nst φ) → j = i) (h : EvNR F ks te R) (c : Cont F (ks.set i (.nst R)) E.nx) : Run F ks (tAsg te (gName i)) E := fun M σ H o => h M σ H o _ fun p qs rows H1 n1 n2 nd o1 s1 l1 a1 r1 => by
  have fr : ∀ a ∈ p :: qs, H a = none := fun a ha => by
    rcases List.mem_cons.mp ha with e | ha
    · rw [e]; exact n1
    · exact n2 a ha
  have inM : ∀ a ∈ p :: qs, a ∈ p :: (qs ++ M) := fun a ha => by
    rcases List.mem_cons.mp ha with e | ha
    · rw [e]; exact List.mem_cons_self
    · exact List.mem_cons_of_mem _ (List.mem_append_left _ ha)
  have lenK : (ks.set i (Kd.nst R)).length = ks.length := List.length_set
  have gk : ∀ (j : Nat) (k : Kd), (∀ χ, k ≠ .nst χ) → (ks.set i (.nst R))[j]? = some k → i ≠ j ∧ ks[j]? = some k := fun j k nk e => by
    rcases getK e with ⟨_, _, z⟩ | ⟨n, z⟩
    · exact absurd z.symm (nk R)
    · exact ⟨n, z⟩
  have km : ∀ (k : Kd), isM k = true → ∀ χ, k ≠ .nst χ := fun k m χ e => by rw [e] at m; cases m
  refine c (p :: (qs ++ M)) _ H1 ⟨by rw [List.length_set, List.length_set]; exact o1.len, fun j d e => ?_, fun j χ e => ?_, fun j χ e => ?_, fun j l x y u e1 e2 m1 m2 t1 t2 => ?_, fun j χ e => ?_, fun j l χ ξ e1 e2 => ?_, o1.base, o1.vis, o1.sup, o1.live⟩
  · obtain ⟨ne, z⟩ := gk j _ (fun χ e => by cases e) e
    rw [List.getElem?_set_ne ne]
    exact o1.dat j d z
  · obtain ⟨ne, z⟩ := gk j _ (fun χ e => by cases e) e
    obtain ⟨x, g1, g2⟩ := o1.own j χ z
    exact ⟨x, g1, g2.at (List.getElem?_set_ne ne)⟩
  · obtain ⟨ne, z⟩ := gk j _ (fun χ e => by cases e) e
    obtain ⟨x, g1, g2⟩ := o1.bor j χ z
    exact ⟨x, g1, g2.at (List.getElem?_set_ne ne)⟩
  · obtain ⟨ne1, z1⟩ := gk j _ (km x m1) e1
    obtain ⟨ne2, z2⟩ := gk l _ (km y m2) e2
    rw [List.getElem?_set_ne ne1] at t1
    rw [List.getElem?_set_ne ne2] at t2
    exact o1.inj j l x y u z1 z2 m1 m2 t1 t2
  · rcases getK e with ⟨rfl, hl, z⟩ | ⟨ne, z⟩
    · cases z
      refine ⟨p, qs, ⟨List.getElem?_set_self (o1.lt hl), nd, fun a ha => ⟨inM a ha, fun z => o.fresh (fr a ha) (o.sup a z), o.baseNone (fr a ha)⟩, l1, rows, a1, r1⟩, fun a ha z => ?_⟩
      obtain ⟨m, k, g1, g2, g3⟩ := z
      obtain ⟨ne, z1⟩ := gk m k (km k g2) g1
      rw [List.getElem?_set_ne ne] at g3
      exact o.noOwn (fr a ha) ⟨m, k, z1, g2, g3⟩
    · exact absurd (hno j χ z).symm ne
  · have key : ∀ (j : Nat) (χ : List (List D) → Prop), (ks.set i (.nst R))[j]? = some (.nst χ) → j = i := fun j χ e => by
      rcases nstGet e with ⟨z, _⟩ | ⟨_, z⟩
      · exact z.symm
      · exact hno j χ z
    rw [key j χ e1, key l ξ e2]
theorem rs_asgN {te : TE} {i : Nat} {rows : List (List D)} {u : TS} (hno : ∀ j φ, ks[j]? = some (.nst φ) → j = i) (h : EvN F ks te rows) (c : Run F (ks.set i (.nst fun x => x = rows)) u E) : Run F ks (tSeq (tAsg te (gName i)) u) E := run_seq (run_asgNR hno h c)
end
end Dl
set_option Elab.async false
set_option linter.all false
set_option maxHeartbeats 2000000
/-! AlgMath: products by a table, algebras, other bases: plain mathematics. -/
namespace Dl
open PySem L2
theorem sm_swap (f : Nat → Nat → Int) (m : Nat) : ∀ n, sm (fun i => sm (f i) m) n = sm (fun j => sm (fun i => f i j) n) m
  | 0 => (sm_zero fun _ _ => rfl).symm
  | n + 1 => by
    show sm (fun i => sm (f i) m) n + sm (f n) m = sm (fun j => sm (fun i => f i j) n + f n j) m
    rw [sm_swap f m n, sm_add]
/-- the product of two elements of the basis -/
def ent (T : List (List (List Int))) (i j : Nat) : List Int := (T.getD i []).getD j []
def mMul (p : Int) (n : Nat) (T : List (List (List Int))) (x y : List Int) : List Int := (List.range n).map fun k => sm (fun i => sm (fun j => cf x i * cf y j * cf (ent T i j) k) n) n % p
structure Tb (p : Int) (n : Nat) (T : List (List (List Int))) : Prop where
  len : T.length = n
  row : ∀ i, i < n → (T.getD i []).length = n
  vc : ∀ i j, i < n → j < n → Vc p n (ent T i j)
theorem mul_len {p : Int} {n : Nat} {T : List (List (List Int))} {x y : List Int} : (mMul p n T x y).length = n := by
  unfold mMul
  rw [List.length_map, List.length_range]
theorem cf_mul {p : Int} {n : Nat} {T : List (List (List Int))} {x y : List Int} {k : Nat} (hk : k < n) : cf (mMul p n T x y) k = sm (fun i => sm (fun j => cf x i * cf y j * cf (ent T i j) k) n) n % p := by
  rw [cf_lt (by rw [mul_len]; exact hk)]
  unfold mMul
  rw [List.getElem_map, List.getElem_range]
theorem mul_vc {p : Int} {n : Nat} {T : List (List (List Int))} {x y : List Int} (hp : 0 < p) : Vc p n (mMul p n T x y) := ⟨mul_len, fun z hz => by
  unfold mMul at hz
  obtain ⟨k, _, rfl⟩ := List.mem_map.mp hz
  exact emod_in hp _⟩
/-- linear maps -/
structure Lin (p : Int) (n m : Nat) (f : List Int → List Int) : Prop where
  vc : ∀ x, Vc p n x → Vc p m (f x)
  add : ∀ x y, Vc p n x → Vc p n y → f (mAdd p x y) = mAdd p (f x) (f y)
  scl : ∀ a x, Vc p n x → f (mScl p a x) = mScl p a (f x)
def units (n : Nat) : List (List Int) := (List.range n).map (unitR n)
theorem units_len (n : Nat) : (units n).length = n := by unfold units; rw [List.length_map, List.length_range]
theorem units_at {n j : Nat} (h : j < n) : (units n).getD j [] = unitR n j := by
  unfold units
  rw [List.getD_eq_getElem?_getD, List.getElem?_map, List.getElem?_range h]
  rfl
section
variable {p : Int} {n m l : Nat} {T : List (List (List Int))} {f g : List Int → List Int} (hP : PR p)
include hP
theorem units_vcs : Vcs p n (units n) := fun v hv => by
  obtain ⟨k, _, rfl⟩ := List.mem_map.mp hv
  exact unitR_vc hP.two n k
theorem tot_units {v : List Int} (hv : Vc p n v) : mTot p n (units n) v n = v := by
  have h := tot_vc hP.pos (units_vcs hP (n := n)) v n (by rw [units_len]; exact Nat.le_refl _)
  refine vext0 h.1 hv.1 fun k hk => ?_
  rw [cf_tot hP.pos (units_vcs hP) v k n (by rw [units_len]; exact Nat.le_refl _), sm_one (a := k) hk fun j hj hne => by rw [units_at hj, cf_unitR hk, if_neg (fun e => hne e.symm), Int.zero_mul], units_at hk, cf_unitR hk, if_pos rfl, Int.one_mul, hv.md hP.pos]
theorem in_units {v : List Int} (hv : Vc p n v) : In p n (units n) v := by
  have h := tot_in hP.pos (p := p) (n := n) (rows := units n) v n (by rw [units_len]; exact Nat.le_refl _)
  rw [tot_units hP hv] at h
  exact h
theorem Lin.zer (L : Lin p n m f) : f (zer n) = zer m := by
  have h := L.scl 0 (Dl.zer n) (Vc.zer hP.pos)
  rw [scl_0 hP.pos (Vc.zer hP.pos), scl_0 hP.pos (L.vc _ (Vc.zer hP.pos))] at h
  exact h
theorem Lin.comp (L : Lin p n m f) (L' : Lin p m l g) : Lin p n l (fun x => g (f x)) where
  vc := fun x h => L'.vc _ (L.vc x h)
  add := fun x y hx hy => by rw [L.add x y hx hy, L'.add _ _ (L.vc x hx) (L.vc y hy)]
  scl := fun a x hx => by rw [L.scl a x hx, L'.scl a _ (L.vc x hx)]
theorem Lin.id : Lin p n n (fun x => x) := ⟨fun _ h => h, fun _ _ _ _ => rfl, fun _ _ _ => rfl⟩
theorem lin_ext (L : Lin p n m f) (L' : Lin p n m g) (h : ∀ i, i < n → f (unitR n i) = g (unitR n i)) {x : List Int} (hx : Vc p n x) : f x = g x := by
  induction in_units hP hx with
  | zero => rw [L.zer hP, L'.zer hP]
  | @add w r a hw hr ih =>
    have hwv := hw.vc hP.pos (units_vcs hP)
    have hrv := units_vcs hP (n := n) r hr
    obtain ⟨k, hk, rfl⟩ := List.mem_map.mp hr
    rw [L.add _ _ hwv (hrv.scl' hP.pos), L'.add _ _ hwv (hrv.scl' hP.pos), L.scl _ _ hrv, L'.scl _ _ hrv, ih hwv, h k (List.mem_range.mp hk)]
theorem mul_linl (y : List Int) : Lin p n n (fun x => mMul p n T x y) where
  vc := fun x _ => mul_vc hP.pos
  add := fun x x' hx hx' => by
    refine vext0 mul_len ((mul_vc hP.pos).add' hP.pos (mul_vc hP.pos) : Vc p n _).1 fun k hk => ?_
    rw [cf_mul hk, cf_add (by rw [mul_len, mul_len]), cf_mul hk, cf_mul hk, ← Int.add_emod, ← sm_add]
    refine sm_mod fun i hi => ?_
    rw [← sm_add]
    refine sm_mod fun j hj => ?_
    rw [cf_add (by rw [hx.1, hx'.1]), Int.mul_assoc, em_l]
    congr 1
    grind
  scl := fun a x hx => by
    refine vext0 mul_len ((mul_vc hP.pos).scl' hP.pos : Vc p n _).1 fun k hk => ?_
    rw [cf_mul hk, cf_scl, cf_mul hk, em_l, Int.mul_comm _ a, ← sm_mul]
    refine sm_mod fun i hi => ?_
    rw [← sm_mul]
    refine sm_mod fun j hj => ?_
    rw [cf_scl, Int.mul_assoc, em_l]
    congr 1
    grind
theorem mul_linr (x : List Int) : Lin p n n (fun y => mMul p n T x y) where
  vc := fun x _ => mul_vc hP.pos
  add := fun y y' hy hy' => by
    refine vext0 mul_len ((mul_vc hP.pos).add' hP.pos (mul_vc hP.pos) : Vc p n _).1 fun k hk => ?_
    rw [cf_mul hk, cf_add (by rw [mul_len, mul_len]), cf_mul hk, cf_mul hk, ← Int.add_emod, ← sm_add]
    refine sm_mod fun i hi => ?_
    rw [← sm_add]
    refine sm_mod fun j hj => ?_
    rw [cf_add (by rw [hy.1, hy'.1]), Int.mul_comm (cf x i), Int.mul_assoc, em_l]
    congr 1
    grind
  scl := fun a y hy => by
    refine vext0 mul_len ((mul_vc hP.pos).scl' hP.pos : Vc p n _).1 fun k hk => ?_
    rw [cf_mul hk, cf_scl, cf_mul hk, em_l, Int.mul_comm _ a, ← sm_mul]
    refine sm_mod fun i hi => ?_
    rw [← sm_mul]
    refine sm_mod fun j hj => ?_
    rw [cf_scl, Int.mul_comm (cf x i), Int.mul_assoc, em_l]
    congr 1
    grind
theorem tot_lin {rows : List (List Int)} (h : Vcs p m rows) : Lin p rows.length m (fun x => mTot p m rows x rows.length) where
  vc := fun x _ => tot_vc hP.pos h x _ (Nat.le_refl _)
  add := fun x y hx hy => by
    have v1 := fun x => tot_vc hP.pos h x _ (Nat.le_refl _)
    refine vext0 (v1 _).1 ((v1 _).add' hP.pos (v1 _)).1 fun k hk => ?_
    rw [cf_tot hP.pos h _ _ _ (Nat.le_refl _), cf_add (by rw [(v1 _).1, (v1 _).1]), cf_tot hP.pos h _ _ _ (Nat.le_refl _), cf_tot hP.pos h _ _ _ (Nat.le_refl _), ← Int.add_emod, ← sm_add]
    refine sm_mod fun i hi => ?_
    rw [cf_add (by rw [hx.1, hy.1]), em_r, Int.mul_add]
  scl := fun a x hx => by
    have v1 := fun x => tot_vc hP.pos h x _ (Nat.le_refl _)
    refine vext0 (v1 _).1 ((v1 _).scl' hP.pos).1 fun k hk => ?_
    rw [cf_tot hP.pos h _ _ _ (Nat.le_refl _), cf_scl, cf_tot hP.pos h _ _ _ (Nat.le_refl _), em_l, Int.mul_comm _ a, ← sm_mul]
    refine sm_mod fun i hi => ?_
    rw [cf_scl, em_r]
    congr 1
    grind
theorem tot_unit {rows : List (List Int)} (h : Vcs p m rows) {i : Nat} (hi : i < rows.length) : mTot p m rows (unitR rows.length i) rows.length = rows.getD i [] := by
  have hr := h _ (getD_memL hi)
  refine vext0 (tot_vc hP.pos h _ _ (Nat.le_refl _)).1 hr.1 fun k hk => ?_
  rw [cf_tot hP.pos h _ _ _ (Nat.le_refl _), sm_one (a := i) hi fun j hj hne => by rw [cf_unitR hj, if_neg hne, Int.mul_zero], cf_unitR hi, if_pos rfl, Int.mul_one, hr.md hP.pos]
/-! products of the basis -/
theorem mul_units (hT : Tb p n T) {i j : Nat} (hi : i < n) (hj : j < n) : mMul p n T (unitR n i) (unitR n j) = ent T i j := by
  refine vext0 mul_len (hT.vc i j hi hj).1 fun k hk => ?_
  rw [cf_mul hk, sm_one (a := i) hi fun a ha hne => sm_zero fun b hb => by rw [cf_unitR ha, if_neg hne, Int.zero_mul, Int.zero_mul], sm_one (a := j) hj fun b hb hne => by rw [cf_unitR hb, if_neg hne, Int.mul_zero, Int.zero_mul], cf_unitR hi, cf_unitR hj, if_pos rfl, if_pos rfl, Int.one_mul, Int.one_mul, (hT.vc i j hi hj).md hP.pos]
theorem row_vcs (hT : Tb p n T) {i : Nat} (hi : i < n) : Vcs p n (T.getD i []) := fun v hv => by
  obtain ⟨j, hj, e⟩ := List.getElem_of_mem hv
  have h := hT.vc i j hi (by rw [← hT.row i hi]; exact hj)
  unfold ent at h
  rw [List.getD_eq_getElem?_getD (l := T.getD i []), List.getElem?_eq_getElem hj] at h
  rw [← e]
  exact h
theorem mul_unit_l (hT : Tb p n T) {i : Nat} (hi : i < n) {y : List Int} (hy : Vc p n y) : mMul p n T (unitR n i) y = mTot p n (T.getD i []) y n := by
  have L := tot_lin hP (row_vcs hP hT hi)
  have hl := hT.row i hi
  rw [hl] at L
  refine lin_ext hP (mul_linr hP (T := T) (unitR n i)) L (fun j hj => ?_) hy
  rw [mul_units hP hT hi hj]
  have h := tot_unit hP (row_vcs hP hT hi) (i := j) (by rw [hl]; exact hj)
  rw [hl] at h
  exact h.symm
def colT (n : Nat) (T : List (List (List Int))) (k : Nat) : List (List Int) := (List.range n).map fun m => ent T m k
omit hP in
theorem colT_len (n : Nat) (T : List (List (List Int))) (k : Nat) : (colT n T k).length = n := by unfold colT; rw [List.length_map, List.length_range]
omit hP in
theorem colT_at {n : Nat} {T : List (List (List Int))} {k j : Nat} (h : j < n) : (colT n T k).getD j [] = ent T j k := by
  unfold colT
  rw [List.getD_eq_getElem?_getD, List.getElem?_map, List.getElem?_range h]
  rfl
omit hP in
theorem colT_vcs (hT : Tb p n T) {k : Nat} (hk : k < n) : Vcs p n (colT n T k) := fun v hv => by
  obtain ⟨m, hm, rfl⟩ := List.mem_map.mp hv
  exact hT.vc m k (List.mem_range.mp hm) hk
theorem mul_unit_r (hT : Tb p n T) {k : Nat} (hk : k < n) {x : List Int} (hx : Vc p n x) : mMul p n T x (unitR n k) = mTot p n (colT n T k) x n := by
  have L := tot_lin hP (colT_vcs hT hk)
  have hl := colT_len n T k
  rw [hl] at L
  refine lin_ext hP (mul_linl hP (T := T) (unitR n k)) L (fun j hj => ?_) hx
  rw [mul_units hP hT hj hk]
  have h := tot_unit hP (colT_vcs hT hk) (i := j) (by rw [hl]; exact hj)
  rw [hl] at h
  rw [h, colT_at hj]
end
/-- an associative algebra with a unit -/
structure IsAlg (p : Int) (n : Nat) (T : List (List (List Int))) (one : List Int) : Prop where
  pr : PR p
  pos : 0 < n
  tb : Tb p n T
  ass : ∀ x y z, Vc p n x → Vc p n y → Vc p n z → mMul p n T (mMul p n T x y) z = mMul p n T x (mMul p n T y z)
  ov : Vc p n one
  onel : ∀ x, Vc p n x → mMul p n T one x = x
  oner : ∀ x, Vc p n x → mMul p n T x one = x
/-- the products of the basis do not depend on the brackets -/
def AssB (p : Int) (n : Nat) (T : List (List (List Int))) : Prop := ∀ i j k, i < n → j < n → k < n → mMul p n T (ent T i j) (unitR n k) = mMul p n T (unitR n i) (ent T j k)
section
variable {p : Int} {n : Nat} {T : List (List (List Int))} {one : List Int}
theorem ass_of (hP : PR p) (hT : Tb p n T) (h : AssB p n T) (x y z : List Int) (hx : Vc p n x) (hy : Vc p n y) (hz : Vc p n z) : mMul p n T (mMul p n T x y) z = mMul p n T x (mMul p n T y z) := by
  have s1 : ∀ i j, i < n → j < n → ∀ z, Vc p n z → mMul p n T (ent T i j) z = mMul p n T (unitR n i) (mMul p n T (unitR n j) z) := fun i j hi hj z hz =>
    lin_ext hP (mul_linr hP _) ((mul_linr hP (T := T) (unitR n j)).comp hP (mul_linr hP (T := T) (unitR n i))) (fun k hk => by
      show mMul p n T (ent T i j) (unitR n k) = mMul p n T (unitR n i) (mMul p n T (unitR n j) (unitR n k))
      rw [mul_units hP hT hj hk]
      exact h i j k hi hj hk) hz
  have s2 : ∀ i, i < n → ∀ y z, Vc p n y → Vc p n z → mMul p n T (mMul p n T (unitR n i) y) z = mMul p n T (unitR n i) (mMul p n T y z) := fun i hi y z hy hz =>
    lin_ext hP (f := fun y => mMul p n T (mMul p n T (unitR n i) y) z) (g := fun y => mMul p n T (unitR n i) (mMul p n T y z)) ((mul_linr hP (T := T) (unitR n i)).comp hP (mul_linl hP (T := T) z)) ((mul_linl hP (T := T) z).comp hP (mul_linr hP (T := T) (unitR n i))) (fun j hj => by
      show mMul p n T (mMul p n T (unitR n i) (unitR n j)) z = _
      rw [mul_units hP hT hi hj]
      exact s1 i j hi hj z hz) hy
  exact lin_ext hP (f := fun x => mMul p n T (mMul p n T x y) z) (g := fun x => mMul p n T x (mMul p n T y z)) ((mul_linl hP (T := T) y).comp hP (mul_linl hP (T := T) z)) (mul_linl hP (T := T) _) (fun i hi => s2 i hi y z hy hz) hx
theorem ass_b (hP : PR p) (hT : Tb p n T) (h : ∀ x y z, Vc p n x → Vc p n y → Vc p n z → mMul p n T (mMul p n T x y) z = mMul p n T x (mMul p n T y z)) : AssB p n T := fun i j k hi hj hk => by
  rw [← mul_units hP hT hi hj, ← mul_units hP hT hj hk]
  exact h _ _ _ (unitR_vc hP.two n i) (unitR_vc hP.two n j) (unitR_vc hP.two n k)
theorem unit_of_l (hP : PR p) {u : List Int} (h : ∀ j, j < n → mMul p n T u (unitR n j) = unitR n j) {x : List Int} (hx : Vc p n x) : mMul p n T u x = x := lin_ext hP (mul_linr hP (T := T) u) (Lin.id hP) h hx
theorem unit_of_r (hP : PR p) {u : List Int} (h : ∀ j, j < n → mMul p n T (unitR n j) u = unitR n j) {x : List Int} (hx : Vc p n x) : mMul p n T x u = x := lin_ext hP (mul_linl hP (T := T) u) (Lin.id hP) h hx
theorem isAlg_of (hP : PR p) (hn : 0 < n) (hT : Tb p n T) (h : AssB p n T) (h1 : Vc p n one) (hl : ∀ j, j < n → mMul p n T one (unitR n j) = unitR n j) (hr : ∀ j, j < n → mMul p n T (unitR n j) one = unitR n j) : IsAlg p n T one :=
  ⟨hP, hn, hT, ass_of hP hT h, h1, fun x hx => unit_of_l hP hl hx, fun x hx => unit_of_r hP hr hx⟩
theorem IsAlg.uni (A : IsAlg p n T one) {u : List Int} (hu : Vc p n u) (h : ∀ x, Vc p n x → mMul p n T u x = x) : u = one := by rw [← A.oner u hu, h one A.ov]
end
/-! ### another basis -/
def chT (p : Int) (n : Nat) (T : List (List (List Int))) (new back : List (List Int)) : List (List (List Int)) := new.map fun x => new.map fun y => mTot p n back (mMul p n T x y) n
structure Base2 (p : Int) (n : Nat) (new back : List (List Int)) : Prop where
  nl : new.length = n
  bl : back.length = n
  nv : Vcs p n new
  bv : Vcs p n back
  nb : ∀ x, Vc p n x → mTot p n new (mTot p n back x n) n = x
  bn : ∀ x, Vc p n x → mTot p n back (mTot p n new x n) n = x
section
variable {p : Int} {n : Nat} {T : List (List (List Int))} {one : List Int} {new back : List (List Int)}
theorem ent_ch (h : new.length = n) {i j : Nat} (hi : i < n) (hj : j < n) : ent (chT p n T new back) i j = mTot p n back (mMul p n T (new.getD i []) (new.getD j [])) n := by
  subst h
  unfold ent chT
  rw [List.getD_eq_getElem?_getD, List.getD_eq_getElem?_getD, List.getElem?_map, List.getElem?_eq_getElem hi]
  show ((new.map _)[j]?).getD [] = _
  rw [List.getElem?_map, List.getElem?_eq_getElem hj, List.getD_eq_getElem?_getD, List.getD_eq_getElem?_getD, List.getElem?_eq_getElem hi, List.getElem?_eq_getElem hj]
  rfl
theorem Base2.linN (B : Base2 p n new back) (hP : PR p) : Lin p n n (fun x => mTot p n new x n) := by
  have L := tot_lin hP B.nv
  rw [B.nl] at L
  exact L
theorem Base2.linB (B : Base2 p n new back) (hP : PR p) : Lin p n n (fun x => mTot p n back x n) := by
  have L := tot_lin hP B.bv
  rw [B.bl] at L
  exact L
theorem Base2.unitN (B : Base2 p n new back) (hP : PR p) {i : Nat} (hi : i < n) : mTot p n new (unitR n i) n = new.getD i [] := by
  have h := tot_unit hP B.nv (i := i) (by rw [B.nl]; exact hi)
  rw [B.nl] at h
  exact h
theorem Base2.unitB (B : Base2 p n new back) (hP : PR p) {i : Nat} (hi : i < n) : mTot p n back (unitR n i) n = back.getD i [] := by
  have h := tot_unit hP B.bv (i := i) (by rw [B.bl]; exact hi)
  rw [B.bl] at h
  exact h
theorem Base2.tb (B : Base2 p n new back) (hP : PR p) : Tb p n (chT p n T new back) := by
  refine ⟨by unfold chT; rw [List.length_map, B.nl], fun i hi => ?_, fun i j hi hj => ?_⟩
  · unfold chT
    rw [List.getD_eq_getElem?_getD, List.getElem?_map, List.getElem?_eq_getElem (by rw [B.nl]; exact hi)]
    show (List.map _ _).length = n
    rw [List.length_map, B.nl]
  · rw [ent_ch B.nl hi hj]
    exact (B.linB hP).vc _ (mul_vc hP.pos)
theorem Base2.mul (B : Base2 p n new back) (hP : PR p) {x y : List Int} (hx : Vc p n x) (hy : Vc p n y) : mMul p n (chT p n T new back) x y = mTot p n back (mMul p n T (mTot p n new x n) (mTot p n new y n)) n := by
  have hT := B.tb (T := T) hP
  have s1 : ∀ i, i < n → ∀ y, Vc p n y → mMul p n (chT p n T new back) (unitR n i) y = mTot p n back (mMul p n T (mTot p n new (unitR n i) n) (mTot p n new y n)) n := fun i hi y hy =>
    lin_ext hP (mul_linr hP _) (((B.linN hP).comp hP (mul_linr hP (T := T) (mTot p n new (unitR n i) n))).comp hP (B.linB hP)) (fun j hj => by
      rw [mul_units hP hT hi hj, ent_ch B.nl hi hj, B.unitN hP hi]
      show _ = mTot p n back (mMul p n T (new.getD i []) (mTot p n new (unitR n j) n)) n
      rw [B.unitN hP hj]) hy
  exact lin_ext hP (f := fun x => mMul p n (chT p n T new back) x y) (g := fun x => mTot p n back (mMul p n T (mTot p n new x n) (mTot p n new y n)) n) (mul_linl hP _) (((B.linN hP).comp hP (mul_linl hP (T := T) (mTot p n new y n))).comp hP (B.linB hP)) (fun i hi => s1 i hi y hy) hx
theorem IsAlg.change (A : IsAlg p n T one) (B : Base2 p n new back) : IsAlg p n (chT p n T new back) (mTot p n back one n) := by
  have hP := A.pr
  have vN := (B.linN hP).vc
  have vB := (B.linB hP).vc
  refine ⟨hP, A.pos, B.tb hP, fun x y z hx hy hz => ?_, vB _ A.ov, fun x hx => ?_, fun x hx => ?_⟩
  · rw [B.mul hP hx hy, B.mul hP hy hz, B.mul hP (vB _ (mul_vc hP.pos)) hz, B.mul hP hx (vB _ (mul_vc hP.pos)), B.nb _ (mul_vc hP.pos), B.nb _ (mul_vc hP.pos), A.ass _ _ _ (vN x hx) (vN y hy) (vN z hz)]
  · rw [B.mul hP (vB _ A.ov) hx, B.nb _ A.ov, A.onel _ (vN x hx), B.bn x hx]
  · rw [B.mul hP hx (vB _ A.ov), B.nb _ A.ov, A.oner _ (vN x hx), B.bn x hx]
/-- elementary steps -/
def shR (p : Int) (n i j : Nat) (a : Int) (w : List Int) : List Int := mAdd p w (mScl p (cf w i * a) (unitR n j))
theorem shR_vc (hP : PR p) {i j : Nat} {a : Int} {w : List Int} (hw : Vc p n w) : Vc p n (shR p n i j a w) := hw.add' hP.pos ((unitR_vc hP.two n j).scl' hP.pos)
theorem cf_shR (hP : PR p) {i j : Nat} {a : Int} {w : List Int} (hw : Vc p n w) {k : Nat} (hk : k < n) : cf (shR p n i j a w) k = (cf w k + (if k = j then cf w i * a else 0)) % p := by
  unfold shR
  rw [cf_add (by rw [scl_len, hw.1, unitR_len]), cf_scl, cf_unitR hk, Int.add_emod_emod]
  by_cases c : k = j
  · rw [if_pos c, if_pos c, Int.one_mul]
  · rw [if_neg c, if_neg c, Int.zero_mul]
theorem shR_lin (hP : PR p) {i j : Nat} (hi : i < n) (a : Int) : Lin p n n (shR p n i j a) where
  vc := fun x hx => shR_vc hP hx
  add := fun x y hx hy => by
    have hxy := hx.add' hP.pos hy
    refine vext0 (shR_vc hP hxy).1 ((shR_vc hP hx).add' hP.pos (shR_vc hP hy)).1 fun k hk => ?_
    rw [cf_add (v := shR p n i j a x) (w := shR p n i j a y) (by rw [(shR_vc hP hx).1, (shR_vc hP hy).1]), cf_shR hP hxy hk, cf_shR hP hx hk, cf_shR hP hy hk, cf_add (v := x) (w := y) (by rw [hx.1, hy.1]), cf_add (v := x) (w := y) (by rw [hx.1, hy.1]), ← Int.add_emod]
    by_cases c : k = j
    · rw [if_pos c, if_pos c, if_pos c, Int.emod_add_emod, ← Int.add_emod_emod, em_l, Int.add_emod_emod]
      congr 1
      grind
    · rw [if_neg c, if_neg c, if_neg c, Int.emod_add_emod]
      congr 1
      omega
  scl := fun b x hx => by
    have hb := hx.scl' (a := b) hP.pos
    refine vext0 (shR_vc hP hb).1 ((shR_vc hP hx).scl' hP.pos).1 fun k hk => ?_
    rw [cf_scl (v := shR p n i j a x), cf_shR hP hb hk, cf_shR hP hx hk, cf_scl, cf_scl, em_l]
    by_cases c : k = j
    · rw [if_pos c, if_pos c, Int.emod_add_emod, ← Int.add_emod_emod, em_l, Int.add_emod_emod]
      congr 1
      grind
    · rw [if_neg c, if_neg c, Int.emod_add_emod]
      congr 1
      grind
theorem shR_back (hP : PR p) {i j : Nat} (hi : i < n) (hj : j < n) (ne : i ≠ j) {a b : Int} (h : (a + b) % p = 0) {w : List Int} (hw : Vc p n w) : shR p n i j a (shR p n i j b w) = w := by
  refine vext0 (shR_vc hP (shR_vc hP hw)).1 hw.1 fun k hk => ?_
  rw [cf_shR hP (shR_vc hP hw) hk, cf_shR hP hw hk, cf_shR hP hw hi, if_neg ne, Int.add_zero, hw.md hP.pos]
  by_cases c : k = j
  · rw [if_pos c, if_pos c, Int.emod_add_emod]
    have e : cf w k + cf w i * b + cf w i * a = cf w k + cf w i * (a + b) := by grind
    rw [e, ← Int.add_emod_emod, ← em_r, h, Int.mul_zero, Int.zero_emod, Int.add_zero, hw.md hP.pos]
  · rw [if_neg c, if_neg c, Int.add_zero, Int.add_zero, Int.emod_emod, hw.md hP.pos]
theorem Base2.start (hP : PR p) (n : Nat) : Base2 p n (units n) (units n) := by
  refine ⟨units_len n, units_len n, units_vcs hP, units_vcs hP, fun x hx => ?_, fun x hx => ?_⟩
  · rw [tot_units hP hx, tot_units hP hx]
  · rw [tot_units hP hx, tot_units hP hx]
theorem getD_set {α : Type} (d : α) {l : List α} {i k : Nat} {x : α} (hi : i < l.length) : (l.set i x).getD k d = if k = i then x else l.getD k d := by
  rw [List.getD_eq_getElem?_getD, List.getElem?_set]
  by_cases c : i = k
  · rw [if_pos c, if_pos c.symm, if_pos hi]
    rfl
  · rw [if_neg c, if_neg (fun e => c e.symm), List.getD_eq_getElem?_getD]
theorem Base2.step (B : Base2 p n new back) (hP : PR p) {i j : Nat} (hi : i < n) (hj : j < n) (ne : i ≠ j) (c : Int) :
    Base2 p n (new.set i (mAdd p (new.getD i []) (mScl p c (new.getD j [])))) (back.map fun b => mAdd p b (mScl p (cf b i * (p - c)) (unitR n j))) := by
  have at_ : ∀ k, k < n → Vc p n (new.getD k []) := fun k hk => B.nv _ (getD_memL (by rw [B.nl]; exact hk))
  have nv : Vcs p n (new.set i (mAdd p (new.getD i []) (mScl p c (new.getD j [])))) := fun v hv => by
    rcases List.mem_or_eq_of_mem_set hv with h | h
    · exact B.nv v h
    · rw [h]
      exact (at_ i hi).add' hP.pos ((at_ j hj).scl' hP.pos)
  have bv : Vcs p n (back.map fun b => mAdd p b (mScl p (cf b i * (p - c)) (unitR n j))) := fun v hv => by
    obtain ⟨b, hb, rfl⟩ := List.mem_map.mp hv
    exact shR_vc hP (B.bv b hb)
  have nl : (new.set i (mAdd p (new.getD i []) (mScl p c (new.getD j [])))).length = n := by rw [List.length_set, B.nl]
  have bl : (back.map fun b => mAdd p b (mScl p (cf b i * (p - c)) (unitR n j))).length = n := by rw [List.length_map, B.bl]
  have LN := tot_lin hP nv
  rw [nl] at LN
  have LB := tot_lin hP bv
  rw [bl] at LB
  have eN : ∀ x, Vc p n x → mTot p n (new.set i (mAdd p (new.getD i []) (mScl p c (new.getD j [])))) x n = mTot p n new (shR p n i j c x) n := fun x hx =>
    lin_ext hP LN ((shR_lin hP (j := j) hi c).comp hP (B.linN hP)) (fun k hk => by
      have h := tot_unit hP nv (i := k) (by rw [nl]; exact hk)
      rw [nl] at h
      rw [h, getD_set [] (by rw [B.nl]; exact hi)]
      show _ = mTot p n new (shR p n i j c (unitR n k)) n
      unfold shR
      rw [(B.linN hP).add _ _ (unitR_vc hP.two n k) ((unitR_vc hP.two n j).scl' hP.pos), (B.linN hP).scl _ _ (unitR_vc hP.two n j), B.unitN hP hk, B.unitN hP hj, cf_unitR hi]
      by_cases e : k = i
      · rw [if_pos e, if_pos e.symm, Int.one_mul, e]
      · rw [if_neg e, if_neg (fun z => e z.symm), Int.zero_mul, scl_0 hP.pos (at_ j hj), add_zer hP.pos (at_ k hk)]) hx
  have eB : ∀ x, Vc p n x → mTot p n (back.map fun b => mAdd p b (mScl p (cf b i * (p - c)) (unitR n j))) x n = shR p n i j (p - c) (mTot p n back x n) := fun x hx =>
    lin_ext hP LB ((B.linB hP).comp hP (shR_lin hP (j := j) hi (p - c))) (fun k hk => by
      have h := tot_unit hP bv (i := k) (by rw [bl]; exact hk)
      rw [bl] at h
      rw [h]
      show _ = shR p n i j (p - c) (mTot p n back (unitR n k) n)
      rw [B.unitB hP hk, getD_map' _ [] [] (by rw [B.bl]; exact hk)]
      rfl) hx
  refine ⟨nl, bl, nv, bv, fun x hx => ?_, fun x hx => ?_⟩
  · rw [eB x hx, eN _ (shR_vc hP ((B.linB hP).vc x hx)), shR_back hP hi hj ne (by rw [show c + (p - c) = p by omega, Int.emod_self]) ((B.linB hP).vc x hx), B.nb x hx]
  · rw [eN x hx, eB _ ((B.linN hP).vc _ (shR_vc hP hx)), B.bn _ (shR_vc hP hx), shR_back hP hi hj ne (by rw [show p - c + c = p by omega, Int.emod_self]) hx]
end
end Dl
set_option Elab.async false
set_option linter.all false
set_option maxHeartbeats 2000000
set_option maxRecDepth 100000
/-! AlgTabs: the tables that the laws draw. -/
namespace Dl
open PySem L2
theorem range_getD {α : Type} (f : Nat → α) (d : α) {n i : Nat} (h : i < n) : ((List.range n).map f).getD i d = f i := by
  rw [List.getD_eq_getElem?_getD, List.getElem?_map, List.getElem?_range h]
  rfl
/-- a table by its products -/
def mkT (n : Nat) (e : Nat → Nat → List Int) : List (List (List Int)) := (List.range n).map fun i => (List.range n).map fun j => e i j
theorem ent_mk {n : Nat} {e : Nat → Nat → List Int} {i j : Nat} (hi : i < n) (hj : j < n) : ent (mkT n e) i j = e i j := by
  unfold ent mkT
  rw [range_getD _ _ hi, range_getD _ _ hj]
theorem tb_mk {p : Int} {n : Nat} {e : Nat → Nat → List Int} (h : ∀ i j, i < n → j < n → Vc p n (e i j)) : Tb p n (mkT n e) := by
  refine ⟨by unfold mkT; rw [List.length_map, List.length_range], fun i hi => ?_, fun i j hi hj => by rw [ent_mk hi hj]; exact h i j hi hj⟩
  unfold mkT
  rw [range_getD _ _ hi, List.length_map, List.length_range]
section
variable {p : Int} {n m : Nat} {T : List (List (List Int))}
theorem mul_comm_of (h : ∀ i j, i < n → j < n → ent T i j = ent T j i) (x y : List Int) : mMul p n T x y = mMul p n T y x := by
  refine vext0 mul_len mul_len fun k hk => ?_
  rw [cf_mul hk, cf_mul hk, sm_swap]
  congr 1
  refine sm_congr fun i hi => sm_congr fun j hj => ?_
  rw [h j i hj hi]
  grind
theorem unitR_n (hp : 0 < p) : unitR n n = zer n := by
  refine vext0 (unitR_len n n) (Vc.zer hp : Vc p n _).1 fun k hk => ?_
  rw [cf_unitR hk, if_neg (by omega), cf_zer]
/-! ### products that are elements of the basis, or 0 -/
def cx (n : Nat) (c : Nat → Nat → Nat) (a b : Nat) : Nat := if a < n ∧ b < n then c a b else n
structure CT (n : Nat) (c : Nat → Nat → Nat) (u : Nat → Bool) : Prop where
  le : ∀ a, a < n → ∀ b, b < n → c a b ≤ n
  ass : ∀ a, a < n → ∀ b, b < n → ∀ d, d < n → cx n c (c a b) d = cx n c a (c b d)
  ul : ∀ b, b < n → ∀ l, l < n → sm (fun a => if u a = true ∧ c a b = l then 1 else 0) n = if l = b then 1 else 0
  ur : ∀ b, b < n → ∀ l, l < n → sm (fun a => if u a = true ∧ c b a = l then 1 else 0) n = if l = b then 1 else 0
def ctO (n : Nat) (u : Nat → Bool) : List Int := (List.range n).map fun k => if u k = true then 1 else 0
theorem cf_ctO {u : Nat → Bool} {k : Nat} (h : k < n) : cf (ctO n u) k = if u k = true then 1 else 0 := range_getD _ _ h
theorem ctO_vc (hP : PR p) (u : Nat → Bool) : Vc p n (ctO n u) := ⟨by unfold ctO; rw [List.length_map, List.length_range], fun x hx => by
  unfold ctO at hx
  obtain ⟨k, _, rfl⟩ := List.mem_map.mp hx
  have := hP.two
  split <;> omega⟩
theorem ct_alg (hP : PR p) (hn : 0 < n) {c : Nat → Nat → Nat} {u : Nat → Bool} (C : CT n c u) (hT : Tb p n T) (he : ∀ i j, i < n → j < n → ent T i j = unitR n (c i j)) : IsAlg p n T (ctO n u) := by
  have two : ∀ a b, a ≤ n → b ≤ n → mMul p n T (unitR n a) (unitR n b) = unitR n (cx n c a b) := fun a b ha hb => by
    unfold cx
    by_cases h : a < n ∧ b < n
    · rw [if_pos h, mul_units hP hT h.1 h.2, he a b h.1 h.2]
    · rw [if_neg h]
      by_cases h1 : a < n
      · have e : b = n := by omega
        subst e
        rw [unitR_n hP.pos, (mul_linr hP (T := T) (unitR b a)).zer hP]
      · have e : a = n := by omega
        subst e
        rw [unitR_n hP.pos, (mul_linl hP (T := T) (unitR a b)).zer hP]
  refine isAlg_of hP hn hT (fun i j k hi hj hk => ?_) (ctO_vc hP u) (fun j hj => ?_) fun j hj => ?_
  · rw [he i j hi hj, he j k hj hk, two _ _ (C.le i hi j hj) (by omega), two _ _ (by omega) (C.le j hj k hk), C.ass i hi j hj k hk]
  · refine vext0 mul_len (unitR_len n j) fun l hl => ?_
    rw [cf_mul hl, cf_unitR hl]
    rw [sm_congr (g := fun a => if u a = true ∧ c a j = l then 1 else 0) fun a ha => ?_, C.ul j hj l hl]
    · have := hP.two
      split
      · exact Int.emod_eq_of_lt (by omega) (by omega)
      · exact Int.zero_emod _
    · rw [sm_one (a := j) hj fun b hb hne => by rw [cf_unitR hb, if_neg hne, Int.mul_zero, Int.zero_mul], cf_unitR hj, if_pos rfl, cf_ctO ha, he a j ha hj, cf_unitR hl]
      by_cases h1 : u a = true
      · by_cases h2 : c a j = l
        · rw [if_pos h1, if_pos h2.symm, if_pos ⟨h1, h2⟩]; rfl
        · rw [if_pos h1, if_neg (fun e => h2 e.symm), if_neg fun z => h2 z.2]; rfl
      · rw [if_neg h1, Int.zero_mul, Int.zero_mul, if_neg (fun (z : u a = true ∧ c a j = l) => h1 z.1)]
  · refine vext0 mul_len (unitR_len n j) fun l hl => ?_
    rw [cf_mul hl, cf_unitR hl, sm_swap]
    rw [sm_congr (g := fun a => if u a = true ∧ c j a = l then 1 else 0) fun a ha => ?_, C.ur j hj l hl]
    · have := hP.two
      split
      · exact Int.emod_eq_of_lt (by omega) (by omega)
      · exact Int.zero_emod _
    · rw [sm_one (a := j) hj fun b hb hne => by rw [cf_unitR hb, if_neg hne, Int.zero_mul, Int.zero_mul], cf_unitR hj, if_pos rfl, cf_ctO ha, he j a hj ha, cf_unitR hl]
      by_cases h1 : u a = true
      · by_cases h2 : c j a = l
        · rw [if_pos h1, if_pos h2.symm, if_pos ⟨h1, h2⟩]; rfl
        · rw [if_pos h1, if_neg (fun e => h2 e.symm), if_neg fun z => h2 z.2]; rfl
      · rw [if_neg h1, Int.mul_zero, Int.zero_mul, if_neg (fun (z : u a = true ∧ c j a = l) => h1 z.1)]
end
/-! ### pairs that meet -/
def pcF (L : List (Nat × Nat)) (a b : Nat) : Nat := if (L.getD a (0, 0)).2 = (L.getD b (0, 0)).1 then L.idxOf ((L.getD a (0, 0)).1, (L.getD b (0, 0)).2) else L.length
def pcU (L : List (Nat × Nat)) (a : Nat) : Bool := (L.getD a (0, 0)).1 == (L.getD a (0, 0)).2
def ltN (n : Nat) (f : Nat → Bool) : Bool := (List.range n).all f
theorem ltN_iff {n : Nat} {f : Nat → Bool} (h : ltN n f = true) : ∀ a, a < n → f a = true := fun a ha => List.all_eq_true.mp h a (List.mem_range.mpr ha)
def chkC (n : Nat) (c : Nat → Nat → Nat) (u : Nat → Bool) : Bool :=
  ltN n fun a => ltN n fun b => decide (c a b ≤ n) && (ltN n fun d => cx n c (c a b) d == cx n c a (c b d)) &&
    decide (sm (fun e => if u e = true ∧ c e a = b then 1 else 0) n = if b = a then 1 else 0) && decide (sm (fun e => if u e = true ∧ c a e = b then 1 else 0) n = if b = a then 1 else 0)
theorem chkC_ok {n : Nat} {c : Nat → Nat → Nat} {u : Nat → Bool} (h : chkC n c u = true) : CT n c u := by
  have k : ∀ a, a < n → ∀ b, b < n → _ := fun a ha b hb => ltN_iff (ltN_iff h a ha) b hb
  refine ⟨fun a ha b hb => ?_, fun a ha b hb d hd => ?_, fun b hb l hl => ?_, fun b hb l hl => ?_⟩
  · have := k a ha b hb
    simp only [Bool.and_eq_true, decide_eq_true_eq] at this
    exact this.1.1.1
  · have := k a ha b hb
    simp only [Bool.and_eq_true, decide_eq_true_eq] at this
    simpa using ltN_iff this.1.1.2 d hd
  · have := k b hb l hl
    simp only [Bool.and_eq_true, decide_eq_true_eq] at this
    exact this.1.2
  · have := k b hb l hl
    simp only [Bool.and_eq_true, decide_eq_true_eq] at this
    exact this.2
def prT (L : List (Nat × Nat)) : List (List (List Int)) := L.map fun x => L.map fun y => unitR L.length (if x.2 = y.1 then L.idxOf (x.1, y.2) else L.length)
def prO (L : List (Nat × Nat)) : List Int := L.map fun x => if x.1 = x.2 then 1 else 0
theorem map_range_getD {α β : Type} (f : α → β) (d : α) : ∀ L : List α, L.map f = (List.range L.length).map fun i => f (L.getD i d) := fun L => by
  apply List.ext_getElem (by simp)
  intro i h1 h2
  simp only [List.getElem_map, List.getElem_range]
  rw [List.getD_eq_getElem?_getD, List.getElem?_eq_getElem (by simpa using h1)]
  rfl
theorem prT_eq (L : List (Nat × Nat)) : prT L = mkT L.length fun i j => unitR L.length (pcF L i j) := by
  unfold prT mkT
  rw [map_range_getD _ (0, 0)]
  refine List.map_congr_left fun i _ => ?_
  rw [map_range_getD _ (0, 0)]
  rfl
theorem prO_eq (L : List (Nat × Nat)) : prO L = ctO L.length (pcU L) := by
  unfold prO ctO
  rw [map_range_getD _ (0, 0)]
  refine List.map_congr_left fun i _ => ?_
  unfold pcU
  by_cases h : (L.getD i (0, 0)).1 = (L.getD i (0, 0)).2
  · rw [if_pos h, if_pos (by simpa using h)]
  · rw [if_neg h, if_neg (by simpa using h)]
theorem pr_alg {p : Int} (hP : PR p) {L : List (Nat × Nat)} (hn : 0 < L.length) (h : chkC L.length (pcF L) (pcU L) = true) : IsAlg p L.length (prT L) (prO L) := by
  rw [prT_eq, prO_eq]
  exact ct_alg hP hn (chkC_ok h) (tb_mk fun i j _ _ => unitR_vc hP.two _ _) fun i j hi hj => ent_mk hi hj
/-- matrices of truth values -/
def bAt (m : List (List Bool)) (i j : Nat) : Bool := (m.getD i []).getD j false
def bSet (m : List (List Bool)) (i j : Nat) (b : Bool) : List (List Bool) := m.set i ((m.getD i []).set j b)
def wStep (k i : Nat) (m : List (List Bool)) (j : Nat) : List (List Bool) := bSet m i j (bAt m i j || (bAt m i k && bAt m k j))
def wRow (s k : Nat) (m : List (List Bool)) (i : Nat) : List (List Bool) := (List.range s).foldl (wStep k i) m
def wAll (s : Nat) (m : List (List Bool)) (k : Nat) : List (List Bool) := (List.range s).foldl (wRow s k) m
def wcl (s : Nat) (m : List (List Bool)) : List (List Bool) := (List.range s).foldl (wAll s) m
def bPairs (s : Nat) (m : List (List Bool)) : List (Nat × Nat) := (List.range s).flatMap fun i => ((List.range s).filter fun j => bAt m i j).map fun j => (i, j)
def dPairs (k : Nat) : List (Nat × Nat) := (List.range k).map fun i => (i, i)
structure Sq (s : Nat) (m : List (List Bool)) : Prop where
  len : m.length = s
  row : ∀ r ∈ m, r.length = s
  dg : ∀ i, i < s → bAt m i i = true
def bRows : Nat → List (List Bool)
  | 0 => [[]]
  | s + 1 => (bRows s).flatMap fun r => [true :: r, false :: r]
def bMats (s : Nat) : Nat → List (List (List Bool))
  | 0 => [[]]
  | k + 1 => (bMats s k).flatMap fun m => (bRows s).map fun r => r :: m
theorem mem_bRows : ∀ (r : List Bool), r ∈ bRows r.length
  | [] => by simp [bRows]
  | b :: r => by
    rw [List.length_cons]
    unfold bRows
    refine List.mem_flatMap.mpr ⟨r, mem_bRows r, ?_⟩
    cases b <;> simp
theorem mem_bMats {s : Nat} : ∀ (m : List (List Bool)), (∀ r ∈ m, r.length = s) → m ∈ bMats s m.length
  | [], _ => by simp [bMats]
  | r :: m, h => by
    rw [List.length_cons]
    unfold bMats
    refine List.mem_flatMap.mpr ⟨m, mem_bMats m fun x hx => h x (List.mem_cons_of_mem _ hx), List.mem_map.mpr ⟨r, ?_, rfl⟩⟩
    have := mem_bRows r
    rw [h r List.mem_cons_self] at this
    exact this
def chkL (L : List (Nat × Nat)) : Bool := chkC L.length (pcF L) (pcU L)
/-- j = k asks that the pair is there -/
def inL (L : List (Nat × Nat)) : Bool := L.all fun x => L.all fun y => !(x.2 == y.1) || decide ((x.1, y.2) ∈ L)
def chkM (s : Nat) (m : List (List Bool)) : Bool := !((List.range s).all fun i => bAt m i i) || (decide (0 < (bPairs s (wcl s m)).length) && inL (bPairs s (wcl s m)) && (decide (5 < (bPairs s (wcl s m)).length) || chkL (bPairs s (wcl s m))))
theorem chk1 : (bMats 1 1).all (chkM 1) = true := by decide +kernel
theorem chk2 : (bMats 2 2).all (chkM 2) = true := by decide +kernel
theorem chk3 : (bMats 3 3).all (chkM 3) = true := by decide +kernel
theorem chkD : [1, 2, 3].all (fun k => chkL (dPairs k) && inL (dPairs k)) = true := by decide +kernel
theorem chk_all {s : Nat} (h1 : 1 ≤ s) (h3 : s ≤ 3) {m : List (List Bool)} (S : Sq s m) : 0 < (bPairs s (wcl s m)).length ∧ inL (bPairs s (wcl s m)) = true ∧ ((bPairs s (wcl s m)).length ≤ 5 → chkL (bPairs s (wcl s m)) = true) := by
  have key : chkM s m = true := by
    have hm := mem_bMats m S.row
    rw [S.len] at hm
    have : s = 1 ∨ s = 2 ∨ s = 3 := by omega
    rcases this with e | e | e
    · subst e; exact List.all_eq_true.mp chk1 m hm
    · subst e; exact List.all_eq_true.mp chk2 m hm
    · subst e; exact List.all_eq_true.mp chk3 m hm
  unfold chkM at key
  have hd : ((List.range s).all fun i => bAt m i i) = true := List.all_eq_true.mpr fun i hi => S.dg i (List.mem_range.mp hi)
  rw [hd] at key
  simp only [Bool.not_true, Bool.false_or, Bool.and_eq_true, Bool.or_eq_true, decide_eq_true_eq] at key
  refine ⟨key.1.1, key.1.2, fun h => ?_⟩
  rcases key.2 with z | z
  · omega
  · exact z
def ptL (s most : Nat) (m : List (List Bool)) : List (Nat × Nat) := if most < (bPairs s (wcl s m)).length then dPairs (min s most) else bPairs s (wcl s m)
theorem pt_ok {s most : Nat} (h1 : 1 ≤ s) (h3 : s ≤ 3) (hm1 : 1 ≤ most) (hm : most ≤ 5) {m : List (List Bool)} (S : Sq s m) : 0 < (ptL s most m).length ∧ (ptL s most m).length ≤ most ∧ inL (ptL s most m) = true ∧ chkL (ptL s most m) = true := by
  obtain ⟨a, b, c⟩ := chk_all h1 h3 S
  unfold ptL
  by_cases h : most < (bPairs s (wcl s m)).length
  · rw [if_pos h]
    have hk : min s most ∈ [1, 2, 3] := by
      have : min s most = 1 ∨ min s most = 2 ∨ min s most = 3 := by omega
      rcases this with e | e | e <;> rw [e] <;> simp
    have z := List.all_eq_true.mp chkD _ hk
    rw [Bool.and_eq_true] at z
    have e : (dPairs (min s most)).length = min s most := by unfold dPairs; rw [List.length_map, List.length_range]
    exact ⟨by rw [e]; omega, by rw [e]; omega, z.2, z.1⟩
  · rw [if_neg h]
    exact ⟨a, by omega, b, c (by omega)⟩
/-! ### powers of one element -/
def shX (p : Int) (d : Nat) (f v : List Int) : List Int := (List.range d).map fun i => ((if 0 < i then cf v (i - 1) else 0) - cf v (d - 1) * cf f i) % p
def pwR (p : Int) (d : Nat) (f : List Int) : Nat → List Int
  | 0 => unitR d 0
  | k + 1 => shX p d f (pwR p d f k)
def pwT (p : Int) (d : Nat) (f : List Int) : List (List (List Int)) := mkT d fun i j => pwR p d f (i + j)
section
variable {p : Int} {d : Nat} {f : List Int}
theorem cf_shX {v : List Int} {i : Nat} (h : i < d) : cf (shX p d f v) i = ((if 0 < i then cf v (i - 1) else 0) - cf v (d - 1) * cf f i) % p := range_getD _ _ h
theorem shX_vc (hp : 0 < p) (v : List Int) : Vc p d (shX p d f v) := ⟨by unfold shX; rw [List.length_map, List.length_range], fun x hx => by
  unfold shX at hx
  obtain ⟨k, _, rfl⟩ := List.mem_map.mp hx
  exact emod_in hp _⟩
theorem pw_vc (hP : PR p) : ∀ k, Vc p d (pwR p d f k)
  | 0 => unitR_vc hP.two d 0
  | k + 1 => shX_vc hP.pos _
theorem pw_unit (hP : PR p) : ∀ {k : Nat}, k < d → pwR p d f k = unitR d k
  | 0, _ => rfl
  | k + 1, h => by
    show shX p d f (pwR p d f k) = _
    rw [pw_unit hP (by omega)]
    refine vext0 (shX_vc hP.pos _ : Vc p d _).1 (unitR_len d (k + 1)) fun i hi => ?_
    rw [cf_shX hi, cf_unitR hi, cf_unitR (by omega : d - 1 < d), if_neg (by omega : ¬ d - 1 = k), Int.zero_mul, Int.sub_zero]
    have := hP.two
    by_cases h0 : 0 < i
    · rw [if_pos h0, cf_unitR (by omega)]
      by_cases e : i - 1 = k
      · rw [if_pos e, if_pos (by omega), Int.emod_eq_of_lt (by omega) (by omega)]
      · rw [if_neg e, if_neg (by omega), Int.zero_emod]
    · rw [if_neg h0, if_neg (by omega), Int.zero_emod]
theorem shX_lin (hP : PR p) : Lin p d d (shX p d f) where
  vc := fun x _ => shX_vc hP.pos x
  add := fun x y hx hy => by
    refine vext0 (shX_vc hP.pos _ : Vc p d _).1 ((shX_vc hP.pos x).add' hP.pos (shX_vc hP.pos y) : Vc p d _).1 fun i hi => ?_
    rw [cf_shX hi, cf_add (v := shX p d f x) (w := shX p d f y) (by rw [(shX_vc hP.pos x : Vc p d _).1, (shX_vc hP.pos y : Vc p d _).1]), cf_shX hi, cf_shX hi, ← Int.add_emod, cf_add (by rw [hx.1, hy.1]) (d - 1), em_sl]
    by_cases h0 : 0 < i
    · rw [if_pos h0, if_pos h0, if_pos h0, cf_add (by rw [hx.1, hy.1]), Int.emod_sub_emod]
      congr 1
      grind
    · rw [if_neg h0, if_neg h0, if_neg h0]
      congr 1
      grind
  scl := fun a x hx => by
    refine vext0 (shX_vc hP.pos _ : Vc p d _).1 ((shX_vc hP.pos x).scl' hP.pos : Vc p d _).1 fun i hi => ?_
    rw [cf_shX hi, cf_scl p a (shX p d f x), cf_shX hi, em_l, cf_scl p a x (d - 1), em_sl]
    by_cases h0 : 0 < i
    · rw [if_pos h0, if_pos h0, cf_scl, Int.emod_sub_emod]
      congr 1
      grind
    · rw [if_neg h0, if_neg h0]
      congr 1
      grind
def itX (p : Int) (d : Nat) (f : List Int) : Nat → List Int → List Int
  | 0, v => v
  | k + 1, v => shX p d f (itX p d f k v)
theorem it_lin (hP : PR p) : ∀ k, Lin p d d (itX p d f k)
  | 0 => by
    have h := Lin.id (n := d) hP
    exact h
  | k + 1 => by
    have h := Lin.comp hP (f := itX p d f k) (g := shX p d f) (it_lin hP k) (shX_lin hP)
    exact h
theorem it_pw (k : Nat) : ∀ j, itX p d f j (pwR p d f k) = pwR p d f (j + k)
  | 0 => by rw [Nat.zero_add]; rfl
  | j + 1 => by
    show shX p d f (itX p d f j (pwR p d f k)) = _
    rw [it_pw k j, Nat.add_right_comm]
    rfl
theorem pw_alg (hP : PR p) (hd : 0 < d) : IsAlg p d (pwT p d f) (unitR d 0) := by
  have hT : Tb p d (pwT p d f) := tb_mk fun i j _ _ => pw_vc hP _
  have he : ∀ i j, i < d → j < d → ent (pwT p d f) i j = pwR p d f (i + j) := fun i j hi hj => ent_mk hi hj
  have hm : ∀ i, i < d → ∀ y, Vc p d y → mMul p d (pwT p d f) (unitR d i) y = itX p d f i y := fun i hi y hy =>
    lin_ext hP (mul_linr hP _) (it_lin hP i) (fun j hj => by rw [mul_units hP hT hi hj, he i j hi hj, ← pw_unit hP (f := f) hj, it_pw]) hy
  have hc := mul_comm_of (p := p) (T := pwT p d f) (n := d) fun i j hi hj => by rw [he i j hi hj, he j i hj hi, Nat.add_comm]
  refine isAlg_of hP hd hT (fun i j k hi hj hk => ?_) (unitR_vc hP.two d 0) (fun j hj => ?_) fun j hj => ?_
  · rw [hc, he i j hi hj, he j k hj hk, hm k hk _ (pw_vc hP _), hm i hi _ (pw_vc hP _), it_pw, it_pw]
    congr 1
    omega
  · exact hm 0 hd _ (unitR_vc hP.two d j)
  · rw [hc]
    exact hm 0 hd _ (unitR_vc hP.two d j)
end
/-! ### two algebras side by side -/
def bsE (n m : Nat) (T1 T2 : List (List (List Int))) (i j : Nat) : List Int := if i < n ∧ j < n then ent T1 i j ++ zer m else if n ≤ i ∧ n ≤ j then zer n ++ ent T2 (i - n) (j - n) else zer (n + m)
def bsT (n m : Nat) (T1 T2 : List (List (List Int))) : List (List (List Int)) := mkT (n + m) (bsE n m T1 T2)
theorem sm_app (f : Nat → Int) (n : Nat) : ∀ m, sm f (n + m) = sm f n + sm (fun k => f (n + k)) m
  | 0 => (Int.add_zero _).symm
  | m + 1 => by
    show sm f (n + m) + f (n + m) = sm f n + (sm (fun k => f (n + k)) m + f (n + m))
    rw [sm_app f n m]
    omega
theorem cf_appL {v w : List Int} {k : Nat} (h : k < v.length) : cf (v ++ w) k = cf v k := getD_app1 0 h
theorem cf_appR {v w : List Int} {n k : Nat} (h : v.length = n) : cf (v ++ w) (n + k) = cf w k := by
  subst h
  unfold cf
  rw [List.getD_eq_getElem?_getD, List.getD_eq_getElem?_getD, List.getElem?_append_right (by omega), Nat.add_sub_cancel_left]
theorem Vc.app {p : Int} {n m : Nat} {v w : List Int} (hv : Vc p n v) (hw : Vc p m w) : Vc p (n + m) (v ++ w) := ⟨by rw [List.length_append, hv.1, hw.1], fun x hx => (List.mem_append.mp hx).elim (hv.2 x) (hw.2 x)⟩
theorem Vc.takeN {p : Int} {n m : Nat} {v : List Int} (hv : Vc p (n + m) v) : Vc p n (v.take n) := ⟨by rw [List.length_take, hv.1]; omega, fun x hx => hv.2 x (List.mem_of_mem_take hx)⟩
theorem Vc.dropN {p : Int} {n m : Nat} {v : List Int} (hv : Vc p (n + m) v) : Vc p m (v.drop n) := ⟨by rw [List.length_drop, hv.1]; omega, fun x hx => hv.2 x (List.mem_of_mem_drop hx)⟩
section
variable {p : Int} {n m : Nat} {T1 T2 : List (List (List Int))} {o1 o2 : List Int}
theorem bs_vc (hP : PR p) (h1 : Tb p n T1) (h2 : Tb p m T2) {i j : Nat} (hi : i < n + m) (hj : j < n + m) : Vc p (n + m) (bsE n m T1 T2 i j) := by
  unfold bsE
  by_cases a : i < n ∧ j < n
  · rw [if_pos a]
    exact (h1.vc i j a.1 a.2).app (Vc.zer hP.pos)
  · rw [if_neg a]
    by_cases b : n ≤ i ∧ n ≤ j
    · rw [if_pos b]
      exact (Vc.zer hP.pos : Vc p n _).app (h2.vc _ _ (by omega) (by omega))
    · rw [if_neg b]
      exact Vc.zer hP.pos
theorem bs_mul (hP : PR p) (h1 : Tb p n T1) (h2 : Tb p m T2) {x1 y1 x2 y2 : List Int} (hx1 : Vc p n x1) (hy1 : Vc p n y1) (hx2 : Vc p m x2) (hy2 : Vc p m y2) : mMul p (n + m) (bsT n m T1 T2) (x1 ++ x2) (y1 ++ y2) = mMul p n T1 x1 y1 ++ mMul p m T2 x2 y2 := by
  have zl : ∀ k, (zer k).length = k := fun k => List.length_replicate
  refine vext0 mul_len (by rw [List.length_append, mul_len, mul_len]) fun k hk => ?_
  rw [cf_mul hk, sm_app]
  have in1 : ∀ i, i < n → sm (fun j => cf (x1 ++ x2) i * cf (y1 ++ y2) j * cf (ent (bsT n m T1 T2) i j) k) (n + m) = sm (fun j => cf x1 i * cf y1 j * cf (ent T1 i j ++ zer m) k) n := fun i hi => by
    rw [sm_app, sm_zero (f := fun j => cf (x1 ++ x2) i * cf (y1 ++ y2) (n + j) * cf (ent (bsT n m T1 T2) i (n + j)) k) fun j hj => by
      unfold bsT
      rw [ent_mk (by omega) (by omega)]
      unfold bsE
      rw [if_neg (by omega), if_neg (by omega), cf_zer, Int.mul_zero], Int.add_zero]
    refine sm_congr fun j hj => ?_
    unfold bsT
    rw [ent_mk (by omega) (by omega)]
    unfold bsE
    rw [if_pos ⟨hi, hj⟩, cf_appL (by rw [hx1.1]; exact hi), cf_appL (by rw [hy1.1]; exact hj)]
  have in2 : ∀ i, i < m → sm (fun j => cf (x1 ++ x2) (n + i) * cf (y1 ++ y2) j * cf (ent (bsT n m T1 T2) (n + i) j) k) (n + m) = sm (fun j => cf x2 i * cf y2 j * cf (zer n ++ ent T2 i j) k) m := fun i hi => by
    rw [sm_app, sm_zero (f := fun j => cf (x1 ++ x2) (n + i) * cf (y1 ++ y2) j * cf (ent (bsT n m T1 T2) (n + i) j) k) fun j hj => by
      unfold bsT
      rw [ent_mk (by omega) (by omega)]
      unfold bsE
      rw [if_neg (by omega), if_neg (by omega), cf_zer, Int.mul_zero], Int.zero_add]
    refine sm_congr fun j hj => ?_
    unfold bsT
    rw [ent_mk (by omega) (by omega)]
    unfold bsE
    rw [if_neg (by omega), if_pos ⟨by omega, by omega⟩, cf_appR hx1.1, cf_appR hy1.1, Nat.add_sub_cancel_left, Nat.add_sub_cancel_left]
  rw [sm_congr in1, sm_congr in2]
  by_cases c : k < n
  · rw [cf_appL (by rw [mul_len]; exact c), cf_mul c, sm_zero (n := m) fun i hi => sm_zero fun j hj => by rw [cf_appL (by rw [zl]; exact c), cf_zer, Int.mul_zero], Int.add_zero]
    congr 1
    refine sm_congr fun i hi => sm_congr fun j hj => ?_
    rw [cf_appL (by rw [(h1.vc i j hi hj).1]; exact c)]
  · obtain ⟨l, rfl⟩ : ∃ l, k = n + l := ⟨k - n, by omega⟩
    rw [cf_appR mul_len, cf_mul (by omega), sm_zero (n := n) fun i hi => sm_zero fun j hj => by rw [cf_appR (h1.vc i j hi hj).1, cf_zer, Int.mul_zero], Int.zero_add]
    congr 1
    refine sm_congr fun i hi => sm_congr fun j hj => ?_
    rw [cf_appR (zl n)]
theorem bs_alg (A : IsAlg p n T1 o1) (B : IsAlg p m T2 o2) : IsAlg p (n + m) (bsT n m T1 T2) (o1 ++ o2) := by
  have hP := A.pr
  have mv : ∀ {q : Nat} {T : List (List (List Int))} {x y : List Int}, Vc p q (mMul p q T x y) := mul_vc hP.pos
  have sp : ∀ x : List Int, x = x.take n ++ x.drop n := fun x => (List.take_append_drop n x).symm
  refine ⟨hP, by have := A.pos; omega, tb_mk fun i j hi hj => bs_vc hP A.tb B.tb hi hj, fun x y z hx hy hz => ?_, A.ov.app B.ov, fun x hx => ?_, fun x hx => ?_⟩
  · rw [sp x, sp y, sp z, bs_mul hP A.tb B.tb hx.takeN hy.takeN hx.dropN hy.dropN, bs_mul hP A.tb B.tb hy.takeN hz.takeN hy.dropN hz.dropN, bs_mul hP A.tb B.tb mv hz.takeN mv hz.dropN, bs_mul hP A.tb B.tb hx.takeN mv hx.dropN mv, A.ass _ _ _ hx.takeN hy.takeN hz.takeN, B.ass _ _ _ hx.dropN hy.dropN hz.dropN]
  · rw [sp x, bs_mul hP A.tb B.tb A.ov hx.takeN B.ov hx.dropN, A.onel _ hx.takeN, B.onel _ hx.dropN]
  · rw [sp x, bs_mul hP A.tb B.tb hx.takeN A.ov hx.dropN B.ov, A.oner _ hx.takeN, B.oner _ hx.dropN]
end
/-! ### the plane -/
def plE (p a : Int) (i j : Nat) : List Int := if i = 0 then unitR 4 j else if j = 0 then unitR 4 i else if i = 1 ∧ j = 2 then unitR 4 3 else if i = 2 ∧ j = 1 then mScl p a (unitR 4 3) else unitR 4 4
def plT (p a : Int) : List (List (List Int)) := mkT 4 (plE p a)
def plOK (p a : Int) : Prop := ∀ i, i < 4 → ∀ j, j < 4 → (∀ k, k < 4 → mMul p 4 (plT p a) (ent (plT p a) i j) (unitR 4 k) = mMul p 4 (plT p a) (unitR 4 i) (ent (plT p a) j k)) ∧ mMul p 4 (plT p a) (unitR 4 0) (unitR 4 j) = unitR 4 j ∧ mMul p 4 (plT p a) (unitR 4 j) (unitR 4 0) = unitR 4 j
instance (p a : Int) : Decidable (plOK p a) := by unfold plOK; infer_instance
theorem plOK_all : plOK 2 0 ∧ plOK 2 1 ∧ plOK 3 0 ∧ plOK 3 1 ∧ plOK 3 2 := by decide +kernel
theorem plOK_of {p a : Int} (hp : p = 2 ∨ p = 3) (h0 : 0 ≤ a) (h1 : a < p) : plOK p a := by
  obtain ⟨g1, g2, g3, g4, g5⟩ := plOK_all
  rcases hp with e | e
  · subst e
    have : a = 0 ∨ a = 1 := by omega
    rcases this with e | e
    · subst e; exact g1
    · subst e; exact g2
  · subst e
    have : a = 0 ∨ a = 1 ∨ a = 2 := by omega
    rcases this with e | e | e
    · subst e; exact g3
    · subst e; exact g4
    · subst e; exact g5
theorem pl_alg {p a : Int} (hp : p = 2 ∨ p = 3) (h0 : 0 ≤ a) (h1 : a < p) : IsAlg p 4 (plT p a) (unitR 4 0) := by
  have hP : PR p := by rcases hp with e | e <;> subst e <;> simp [PR]
  have k := plOK_of hp h0 h1
  refine isAlg_of hP (by decide) (tb_mk fun i j hi hj => ?_) (fun i j l hi hj hl => ?_) (unitR_vc hP.two 4 0) (fun j hj => ?_) fun j hj => ?_
  · unfold plE
    split
    · exact unitR_vc hP.two 4 j
    · split
      · exact unitR_vc hP.two 4 i
      · split
        · exact unitR_vc hP.two 4 3
        · split
          · exact (unitR_vc hP.two 4 3).scl' hP.pos
          · exact unitR_vc hP.two 4 4
  · exact (k i hi j hj).1 l hl
  · exact (k 0 (by decide) j hj).2.1
  · exact (k 0 (by decide) j hj).2.2
end Dl
set_option Elab.async false
set_option linter.all false
set_option maxRecDepth 100000
set_option maxHeartbeats 2000000
/-! TxDef: what the top has written for the laws with algebras; more rules. -/
namespace Dl
open PySem PySem.Spec PyProof.Rows L2
def tupOk (o : Obj) (ns : List Int) : Bool := o.cls == .type "tuple" && match o.data with
  | .seq its _ => its.toList.map absV == ns.map (fun i => some (V.int i)) && decide (its.size ≤ 1000)
  | _ => false
theorem vals_of : ∀ {us : List Value} {ns : List Int}, us.map absV = ns.map (fun i => some (V.int i)) → Vals (ns.map V.int) us
  | [], [], _ => .nil
  | [], _ :: _, h => by simp at h
  | _ :: _, [], h => by simp at h
  | u :: us, n :: ns, h => by
    rw [List.map_cons, List.map_cons] at h
    injection h with h1 h2
    refine .cons ?_ (vals_of h2)
    cases u with
    | int i t =>
      have e : i = n := by
        have h3 : some (V.int i) = some (V.int n) := h1
        cases h3
        rfl
      subst e
      exact ⟨t, rfl⟩
    | _ => exact absurd h1 (by simp [absV])
structure TxB (K : PySem.W.Frag) (mg : Str → Option Value) : Prop where
  cl : Cls K (clsA K "Algebra")
  nP : NoAttr K (clsA K "Algebra") "p"
  nN : NoAttr K (clsA K "Algebra") "n"
  nT : NoAttr K (clsA K "Algebra") "table"
  nO : NoAttr K (clsA K "Algebra") "one"
  gA : mg "Algebra" = some (.ref (clsA K "Algebra"))
  mal : ExcT K mg "Malformed"
  malX : PySem.W.exmOne K (.ref (clsA K "Malformed")) (.ref (clsA K "Malformed")) = some true
  gPrimes : mg "PRIMES" = some (.ref (clsA K "PRIMES"))
  pri : ∀ H, SqT K H (clsA K "PRIMES") ([2, 3, 5, 7].map V.int)
  gMost : ∃ t, mg "MOST_ELEMENTS" = some (.int 4096 t)
  gDigits : ∃ t, mg "DIGITS" = some (.str "0123456789" t)
theorem tupOk_of {K : PySem.W.Frag} {a : Addr} {o : Obj} {ns : List Int} (l : K.lookup a = some o) (h : tupOk o ns = true) (H : Hp) : SqT K H a (ns.map V.int) := by
  unfold tupOk at h
  rw [Bool.and_eq_true] at h
  obtain ⟨h1, h2⟩ := h
  split at h2
  · rename_i its n hd
    rw [Bool.and_eq_true] at h2
    exact .inr ⟨o, its, n, l, by simpa using h1, hd, Nat.le_trans (of_decide_eq_true h2.2) (by decide), vals_of (by simpa using h2.1)⟩
  · cases h2
/-- an algebra as data -/
structure Alg where
  p : Int
  n : Nat
  T : List (List (List Int))
  one : List Int
def tabD (T : List (List (List Int))) : D := .tup (T.map fun r => .tup (rws r))
def algF (A : Alg) : List (Str × D) := [("p", .int A.p), ("n", .int (A.n : Int)), ("table", tabD A.T), ("one", rw A.one)]
def algD (K : PySem.W.Frag) (A : Alg) : D := .ins (clsA K "Algebra") (algF A)
def Alg.Ok (A : Alg) : Prop := IsAlg A.p A.n A.T A.one ∧ A.n ≤ 12 ∧ A.p.toNat ^ A.n ≤ 4096
section
variable {F : Fm} {ks : List Kd} {E : Ends} {mg : Str → Option Value}
theorem ev_p {te : TE} {A : Alg} (hT : TxB F.K mg) (h : Ev F ks te (algD F.K A)) : Ev F ks (tFld F.K te "p") (.int A.p) := ev_fld h hT.cl hT.nP rfl
theorem ev_n {te : TE} {A : Alg} (hT : TxB F.K mg) (h : Ev F ks te (algD F.K A)) : Ev F ks (tFld F.K te "n") (.int (A.n : Int)) := ev_fld h hT.cl hT.nN rfl
theorem ev_t {te : TE} {A : Alg} (hT : TxB F.K mg) (h : Ev F ks te (algD F.K A)) : Ev F ks (tFld F.K te "table") (tabD A.T) := ev_fld h hT.cl hT.nT rfl
theorem ev_one {te : TE} {A : Alg} (hT : TxB F.K mg) (h : Ev F ks te (algD F.K A)) : Ev F ks (tFld F.K te "one") (rw A.one) := ev_fld h hT.cl hT.nO rfl
theorem ev_pri (hT : TxB F.K mg) : Ev F ks (tC (.ref (clsA F.K "PRIMES"))) (.tup ([2, 3, 5, 7].map D.int)) := fun M σ H o Q q => q _ _ H o .refl (.tup (hT.pri _) (Ats.ofInts _)) rfl
/-- the body's end: None -/
theorem cont_endP {H0 : Hp} {M0 : List Addr} {Q : VK} {T : D → Prop} {N : Sg → Hp → Prop} (q : ∀ d v H', T d → Same H0 H' → At F.K (hid M0 H') v d → Q v H') (hb : Same H0 F.B) (hm : F.M0 = M0) (hN : N = fun _ H' => Q .non H') (ht : T .non) : Cont F ks N := fun M σ H o => by
  subst hN
  exact q .non .non H ht (hb.trans o.base) .non
/-- a, b = x, y -/
theorem run_par {i j : Nat} {ta : TA} {a b : D} (h : EvA F ks ta [a, b]) (c : Cont F ((ks.set i (.dat a)).set j (.dat b)) E.nx) : Run F ks (tPar i j ta) E := fun M σ H o => h M σ H o _ fun vs ds H1 o1 s1 a1 e => by
  subst e
  cases a1 with
  | cons a1 a2 =>
    cases a2 with
    | cons a2 a3 =>
      cases a3
      exact ⟨_, _, rfl, c M _ H1 ((o1.setD a1).setD a2)⟩
theorem rs_par {i j : Nat} {ta : TA} {a b : D} {u : TS} (h : EvA F ks ta [a, b]) (c : Run F ((ks.set i (.dat a)).set j (.dat b)) u E) : Run F ks (tSeq (tPar i j ta) u) E := run_seq (run_par h c)
/-- xs.index(x), xs a datum -/
theorem ev_index {te tx : TE} {x : D} {ys : List D} {j : Nat} (h : Ev F ks te (.lst ys)) (hx : Ev F ks tx x) (ox : okD x = true) (oy : okD (.lst ys) = true) {z : D} (hz : ys[j]? = some z) (he : PyData.eqv (py z) (py x) = true) (hl : ∀ m z', m < j → ys[m]? = some z' → PyData.eqv (py z') (py x) = false) :
    Ev F ks (tBM F.K "list" (rIndexD F.K) te (tCons tx tNil)) (.int (j : Nat)) := fun M σ H o Q q => h M σ H o _ fun v d H1 o1 s1 a1 e => by
  subst e
  have a1' := a1
  cases a1 with
  | lst hl0 hs0 =>
    refine ⟨.inl ⟨rfl, _, .inl (.inl (hid_same _ _ hl0))⟩, ?_⟩
    refine hx M σ H1 o1 _ fun w d H2 o2 s2 a2 e => ?_
    subst e
    have e : pys ys = ys.map py := by
      clear hz he hl oy a1' hs0 h
      induction ys with
      | nil => unfold pys; rfl
      | cons y ys ih => unfold pys; rw [ih]; rfl
    have a3 := dp_of ((a1'.mono (o1.hidStep s2)).mono hid_same) (okD_pl oy)
    have sh := okD_sh oy
    unfold py at a3 sh
    refine ⟨_, w, py _, pys ys, j, py z, rfl, rfl, a3, dp_of (a2.mono hid_same) (okD_pl ox), sh, okD_sh ox, ?_, he, fun m z' hm hz' => ?_, q _ _ H2 o2 (s1.trans s2) (.int _) rfl⟩
    · rw [e, List.getElem?_map, hz]; rfl
    · rw [e, List.getElem?_map] at hz'
      cases e2 : ys[m]? with
      | none => rw [e2] at hz'; cases hz'
      | some y =>
        rw [e2] at hz'
        cases hz'
        exact hl m y hm e2
end
end Dl
set_option Elab.async false
set_option linter.all false
set_option maxRecDepth 100000
set_option maxHeartbeats 2000000
/-! AlgDef: what algebra.py computes, as plain functions. -/
namespace Dl
open PySem L2
def rowsY (p : Int) (n : Nat) (T : List (List (List Int))) (y : List Int) : List (List Int) := (List.range n).map fun i => mTot p n (T.getD i []) y n
section
variable {p : Int} {n : Nat} {T : List (List (List Int))} {one : List Int}
theorem rowsY_len {y : List Int} : (rowsY p n T y).length = n := by unfold rowsY; rw [List.length_map, List.length_range]
theorem rowsY_at {y : List Int} {i : Nat} (h : i < n) : (rowsY p n T y).getD i [] = mTot p n (T.getD i []) y n := range_getD _ _ h
theorem rowsY_vcs (hP : PR p) (hT : Tb p n T) (y : List Int) : Vcs p n (rowsY p n T y) := fun v hv => by
  obtain ⟨i, hi, rfl⟩ := List.mem_map.mp hv
  exact tot_vc hP.pos (row_vcs hP hT (List.mem_range.mp hi)) y n (by rw [hT.row i (List.mem_range.mp hi)]; exact Nat.le_refl _)
theorem prod_eq (hP : PR p) (hT : Tb p n T) {x y : List Int} (hx : Vc p n x) (hy : Vc p n y) : mTot p n (rowsY p n T y) x n = mMul p n T x y := by
  have L := tot_lin hP (rowsY_vcs hP hT y)
  rw [rowsY_len] at L
  refine lin_ext hP L (mul_linl hP (T := T) y) (fun i hi => ?_) hx
  have h := tot_unit hP (rowsY_vcs hP hT y) (i := i) (by rw [rowsY_len]; exact hi)
  rw [rowsY_len] at h
  rw [h, rowsY_at hi, mul_unit_l hP hT hi hy]
/-- the rows that the unit is looked for by -/
def uA (n : Nat) (T : List (List (List Int))) (j k : Nat) : List Int := (List.range n).map fun i => cf (ent T i j) k
def uB (n : Nat) (T : List (List (List Int))) (j k : Nat) : List Int := (List.range n).map fun i => cf (ent T j i) k
def uRow (n : Nat) (T : List (List (List Int))) (j : Nat) (m : Nat) : List (List Int) := (List.range m).flatMap fun k => [uA n T j k, uB n T j k]
def uRows (n : Nat) (T : List (List (List Int))) (m : Nat) : List (List Int) := (List.range m).flatMap fun j => uRow n T j n
def uGs (j m : Nat) : List Int := (List.range m).flatMap fun k => [if j = k then 1 else 0, if j = k then 1 else 0]
def uG (n m : Nat) : List Int := (List.range m).flatMap fun j => uGs j n
theorem uRow_succ (j m : Nat) : uRow n T j (m + 1) = uRow n T j m ++ [uA n T j m, uB n T j m] := by
  unfold uRow
  rw [List.range_succ, List.flatMap_append]
  simp
theorem uRows_succ (m : Nat) : uRows n T (m + 1) = uRows n T m ++ uRow n T m n := by
  unfold uRows
  rw [List.range_succ, List.flatMap_append]
  simp
theorem uGs_succ (j m : Nat) : uGs j (m + 1) = uGs j m ++ [if j = m then 1 else 0, if j = m then 1 else 0] := by
  unfold uGs
  rw [List.range_succ, List.flatMap_append]
  simp
theorem uG_succ (m : Nat) : uG n (m + 1) = uG n m ++ uGs m n := by
  unfold uG
  rw [List.range_succ, List.flatMap_append]
  simp
theorem uRow_len (j m : Nat) : (uRow n T j m).length = m * 2 := by
  unfold uRow
  rw [flatMap_len _ 2 fun a => rfl, List.length_range]
theorem uRows_len (m : Nat) : (uRows n T m).length = m * (n * 2) := by
  unfold uRows
  rw [flatMap_len _ (n * 2) fun a => uRow_len a n, List.length_range]
theorem uGs_len (j m : Nat) : (uGs j m).length = m * 2 := by
  unfold uGs
  rw [flatMap_len _ 2 fun a => rfl, List.length_range]
theorem uG_len (m : Nat) : (uG n m).length = m * (n * 2) := by
  unfold uG
  rw [flatMap_len _ (n * 2) fun a => uGs_len a n, List.length_range]
theorem uA_vc (hP : PR p) (hT : Tb p n T) {j : Nat} (hj : j < n) (k : Nat) : Vc p n (uA n T j k) := ⟨by unfold uA; rw [List.length_map, List.length_range], fun x hx => by
  obtain ⟨i, hi, rfl⟩ := List.mem_map.mp hx
  exact (hT.vc i j (List.mem_range.mp hi) hj).cf hP.pos k⟩
theorem uB_vc (hP : PR p) (hT : Tb p n T) {j : Nat} (hj : j < n) (k : Nat) : Vc p n (uB n T j k) := ⟨by unfold uB; rw [List.length_map, List.length_range], fun x hx => by
  obtain ⟨i, hi, rfl⟩ := List.mem_map.mp hx
  exact (hT.vc j i hj (List.mem_range.mp hi)).cf hP.pos k⟩
theorem uRows_vcs (hP : PR p) (hT : Tb p n T) : Vcs p n (uRows n T n) := fun v hv => by
  obtain ⟨j, hj, h⟩ := List.mem_flatMap.mp hv
  obtain ⟨k, hk, h⟩ := List.mem_flatMap.mp h
  rcases List.mem_cons.mp h with e | h
  · rw [e]; exact uA_vc hP hT (List.mem_range.mp hj) k
  · rw [List.mem_singleton.mp h]; exact uB_vc hP hT (List.mem_range.mp hj) k
theorem uA_dot (hP : PR p) (hT : Tb p n T) {u : List Int} (hu : Vc p n u) {j k : Nat} (hj : j < n) (hk : k < n) : mDot p (uA n T j k) u = cf (mMul p n T u (unitR n j)) k := by
  rw [mDot_sm, (uA_vc hP hT hj k).1, cf_mul hk]
  congr 1
  refine sm_congr fun i hi => ?_
  rw [sm_one (a := j) hj fun b hb hne => by rw [cf_unitR hb, if_neg hne, Int.mul_zero, Int.zero_mul], cf_unitR hj, if_pos rfl, Int.mul_one]
  have e : cf (uA n T j k) i = cf (ent T i j) k := range_getD _ _ hi
  rw [e, Int.mul_comm]
theorem uB_dot (hP : PR p) (hT : Tb p n T) {u : List Int} (hu : Vc p n u) {j k : Nat} (hj : j < n) (hk : k < n) : mDot p (uB n T j k) u = cf (mMul p n T (unitR n j) u) k := by
  rw [mDot_sm, (uB_vc hP hT hj k).1, cf_mul hk, sm_one (a := j) hj fun b hb hne => sm_zero fun c hc => by rw [cf_unitR hb, if_neg hne, Int.zero_mul, Int.zero_mul]]
  congr 1
  refine sm_congr fun i hi => ?_
  have e : cf (uB n T j k) i = cf (ent T j i) k := range_getD _ _ hi
  rw [e, cf_unitR hj, if_pos rfl, Int.one_mul, Int.mul_comm]
theorem fit_app {A B : List (List Int)} {g h : List Int} {v : List Int} (hl : A.length = g.length) : Fit p (A ++ B) (g ++ h) v ↔ Fit p A g v ∧ Fit p B h v := by
  unfold Fit
  rw [List.map_append, List.map_append]
  exact ⟨fun e => List.append_inj e (by rw [List.length_map, List.length_map, hl]), fun ⟨e1, e2⟩ => by rw [e1, e2]⟩
theorem fit_two {a b : List Int} {g h : Int} {v : List Int} : Fit p [a, b] [g, h] v ↔ mDot p a v = g % p ∧ mDot p b v = h % p := by
  unfold Fit
  simp
theorem fit_row (j : Nat) {v : List Int} : ∀ m, Fit p (uRow n T j m) (uGs j m) v ↔ ∀ k, k < m → mDot p (uA n T j k) v = (if j = k then 1 else 0) % p ∧ mDot p (uB n T j k) v = (if j = k then 1 else 0) % p
  | 0 => ⟨fun _ k hk => absurd hk (Nat.not_lt_zero k), fun _ => rfl⟩
  | m + 1 => by
    rw [uRow_succ, uGs_succ, fit_app (by rw [uRow_len, uGs_len]), fit_row j m, fit_two]
    refine ⟨fun ⟨h1, h2⟩ k hk => ?_, fun h => ⟨fun k hk => h k (by omega), h m (by omega)⟩⟩
    by_cases e : k = m
    · rw [e]; exact h2
    · exact h1 k (by omega)
theorem fit_rows {v : List Int} : ∀ m, Fit p (uRows n T m) (uG n m) v ↔ ∀ j, j < m → ∀ k, k < n → mDot p (uA n T j k) v = (if j = k then 1 else 0) % p ∧ mDot p (uB n T j k) v = (if j = k then 1 else 0) % p
  | 0 => ⟨fun _ k hk => absurd hk (Nat.not_lt_zero k), fun _ => rfl⟩
  | m + 1 => by
    rw [uRows_succ, uG_succ, fit_app (by rw [uRows_len, uG_len]), fit_rows m, fit_row m n]
    refine ⟨fun ⟨h1, h2⟩ j hj => ?_, fun h => ⟨fun k hk => h k (by omega), h m (by omega)⟩⟩
    by_cases e : j = m
    · rw [e]; exact h2
    · exact h1 j (by omega)
/-- u fits exactly if it is a unit -/
theorem fit_unit (hP : PR p) (hT : Tb p n T) {u : List Int} (hu : Vc p n u) : Fit p (uRows n T n) (uG n n) u ↔ (∀ j, j < n → mMul p n T u (unitR n j) = unitR n j) ∧ ∀ j, j < n → mMul p n T (unitR n j) u = unitR n j := by
  rw [fit_rows]
  have two := hP.two
  have c : ∀ {j k : Nat}, k < n → ((if j = k then 1 else 0 : Int) % p) = cf (unitR n j) k := fun {j k} hk => by
    rw [cf_unitR hk]
    by_cases e : j = k
    · rw [if_pos e, if_pos e.symm, Int.emod_eq_of_lt (by omega) (by omega)]
    · rw [if_neg e, if_neg (fun z => e z.symm), Int.zero_emod]
  refine ⟨fun h => ⟨fun j hj => vext0 mul_len (unitR_len n j) fun k hk => ?_, fun j hj => vext0 mul_len (unitR_len n j) fun k hk => ?_⟩, fun ⟨h1, h2⟩ j hj k hk => ⟨?_, ?_⟩⟩
  · rw [← uA_dot hP hT hu hj hk, (h j hj k hk).1, c hk]
  · rw [← uB_dot hP hT hu hj hk, (h j hj k hk).2, c hk]
  · rw [uA_dot hP hT hu hj hk, h1 j hj, c hk]
  · rw [uB_dot hP hT hu hj hk, h2 j hj, c hk]
theorem solve_unit (A : IsAlg p n T one) : mSolve p n (uRows n T n) (uG n n) = some one := by
  have hP := A.pr
  have hR := uRows_vcs hP A.tb
  have hl : (uRows n T n).length = (uG n n).length := by rw [uRows_len, uG_len]
  have hf := (fit_unit hP A.tb A.ov).mpr ⟨fun j hj => A.onel _ (unitR_vc hP.two n j), fun j hj => A.oner _ (unitR_vc hP.two n j)⟩
  have hn : (n : Int) ∉ mPiv p (n + 1) (mWide p (uRows n T n) (uG n n)) := fun h => fit_none hP hR hl h A.ov hf
  unfold mSolve
  rw [if_neg hn]
  have hs := sol_fit hP hR hl hn
  have hv := (solV_spec hP hR hn).2.1
  have hu := (fit_unit hP A.tb hv).mp hs
  rw [A.uni hv fun x hx => unit_of_l hP hu.1 hx]
end
end Dl
set_option Elab.async false
set_option linter.all false
set_option maxRecDepth 100000
set_option maxHeartbeats 2000000
/-! AlgLaw: rules for tables of rows and of truth values that are changed in place. -/
namespace Dl
open PySem PySem.Spec PyProof.Rows L2
abbrev tR (T : List (List (List Int))) : List (List D) := T.map rws
/-- a list of lists -/
abbrev tabL (T : List (List (List Int))) : D := .lst (T.map fun r => .lst (rws r))
theorem tR_lst (T : List (List (List Int))) : D.lst ((tR T).map D.lst) = tabL T := by
  show D.lst _ = D.lst _
  rw [List.map_map]
  rfl
def upT (e : Nat → Nat → List Int) (k m : Nat) (v : List Int) (i j : Nat) : List Int := if i = k ∧ j = m then v else e i j
theorem mkT_congr {n : Nat} {e e' : Nat → Nat → List Int} (h : ∀ i j, i < n → j < n → e i j = e' i j) : mkT n e = mkT n e' := by
  unfold mkT
  exact List.map_congr_left fun i hi => List.map_congr_left fun j hj => h i j (List.mem_range.mp hi) (List.mem_range.mp hj)
theorem mkT_len {n : Nat} {e : Nat → Nat → List Int} : (mkT n e).length = n := by unfold mkT; rw [List.length_map, List.length_range]
theorem tR_at {n k : Nat} {e : Nat → Nat → List Int} (h : k < n) : (tR (mkT n e))[k]? = some (rws ((List.range n).map fun j => e k j)) := by
  unfold tR mkT
  rw [List.getElem?_map, List.getElem?_map, List.getElem?_range h]
  rfl
theorem set_mk {n k m : Nat} {e : Nat → Nat → List Int} {v : List Int} (hk : k < n) (hm : m < n) : (tR (mkT n e)).set k ((rws ((List.range n).map fun j => e k j)).set m (rw v)) = tR (mkT n (upT e k m v)) := by
  apply List.ext_getElem?
  intro i
  by_cases hi : i < n
  · rw [tR_at hi]
    by_cases c : k = i
    · subst c
      rw [List.getElem?_set_self (by rw [List.length_map, mkT_len]; exact hi)]
      congr 1
      apply List.ext_getElem?
      intro j
      by_cases hj : j < n
      · by_cases d : m = j
        · subst d
          rw [List.getElem?_set_self (by simp; exact hj), List.getElem?_map, List.getElem?_map, List.getElem?_range hj]
          show _ = some (rw (upT e k m v k m))
          unfold upT
          rw [if_pos ⟨rfl, rfl⟩]
        · rw [List.getElem?_set_ne d, List.getElem?_map, List.getElem?_map, List.getElem?_map, List.getElem?_map, List.getElem?_range hj]
          show some (rw (e k j)) = some (rw (upT e k m v k j))
          unfold upT
          rw [if_neg fun z => d z.2.symm]
      · rw [List.getElem?_eq_none (by simp; omega), List.getElem?_eq_none (by simp; omega)]
    · rw [List.getElem?_set_ne c, tR_at hi]
      congr 2
      refine List.map_congr_left fun j _ => ?_
      unfold upT
      rw [if_neg fun z => c z.1.symm]
  · rw [List.getElem?_eq_none (by rw [List.length_set, List.length_map, mkT_len]; omega), List.getElem?_eq_none (by rw [List.length_map, mkT_len]; omega)]
theorem ixN_int {n m : Nat} {a : Int} (ha : a = (m : Int)) (h : m < n) : ixN n a = some m := by rw [ha]; exact ixN_nat h
section
variable {F : Fm} {ks : List Kd} {E : Ends}
theorem run_setTR {te ti tj : TE} {i n k m : Nat} {e : Nat → Nat → List Int} {R : List Int → Prop} {a b : Int} (hk : ks[i]? = some (.nst fun x => x = tR (mkT n e))) (h : EvR F ks te (fun d => ∃ v, R v ∧ d = rw v)) (hi : Ev F ks ti (.int a)) (hj : Ev F ks tj (.int b)) (ha : a = (k : Int)) (hb : b = (m : Int)) (hkn : k < n) (hmn : m < n)
    (c : Cont F (ks.set i (.nst fun x => ∃ v, R v ∧ x = tR (mkT n (upT e k m v)))) E.nx) : Run F ks (tAsg te (gSub (tOp (rIx F.K) (tVar i) ti) tj rSetL)) E := by
  refine run_setN hk h hi hj (fun rows d hr hd => ?_) c
  obtain ⟨v, hv, rfl⟩ := hd
  subst hr
  exact ⟨k, m, _, ixN_int ha (by rw [List.length_map, mkT_len]; exact hkn), tR_at hkn, ixN_int hb (by simp; exact hmn), v, hv, set_mk hkn hmn⟩
theorem cont_nst {i : Nat} {φ ψ : List (List D) → Prop} {N : Sg → Hp → Prop} (w : ∀ x, φ x → ψ x) (c : Cont F (ks.set i (.nst ψ)) N) : Cont F (ks.set i (.nst φ)) N := Cont.weak c (ksle_set (KsLe.rfl' ks) w)
theorem run_setT {te ti tj : TE} {i n k m : Nat} {e : Nat → Nat → List Int} {v : List Int} {a b : Int} (hk : ks[i]? = some (.nst fun x => x = tR (mkT n e))) (h : Ev F ks te (rw v)) (hi : Ev F ks ti (.int a)) (hj : Ev F ks tj (.int b)) (ha : a = (k : Int)) (hb : b = (m : Int)) (hkn : k < n) (hmn : m < n)
    (c : Cont F (ks.set i (.nst fun x => x = tR (mkT n (upT e k m v)))) E.nx) : Run F ks (tAsg te (gSub (tOp (rIx F.K) (tVar i) ti) tj rSetL)) E :=
  run_setTR (R := fun w => w = v) hk (h.imp fun d q => ⟨v, rfl, q⟩) hi hj ha hb hkn hmn (cont_nst (fun x ⟨w, e1, e2⟩ => by rw [e2, e1]) c)
theorem rs_setT {te ti tj : TE} {i n k m : Nat} {e : Nat → Nat → List Int} {v : List Int} {a b : Int} {u : TS} (hk : ks[i]? = some (.nst fun x => x = tR (mkT n e))) (h : Ev F ks te (rw v)) (hi : Ev F ks ti (.int a)) (hj : Ev F ks tj (.int b)) (ha : a = (k : Int)) (hb : b = (m : Int)) (hkn : k < n) (hmn : m < n)
    (c : Run F (ks.set i (.nst fun x => x = tR (mkT n (upT e k m v)))) u E) : Run F ks (tSeq (tAsg te (gSub (tOp (rIx F.K) (tVar i) ti) tj rSetL)) u) E := run_seq (run_setT hk h hi hj ha hb hkn hmn c)
theorem rs_setTR {te ti tj : TE} {i n k m : Nat} {e : Nat → Nat → List Int} {R : List Int → Prop} {a b : Int} {u : TS} (hk : ks[i]? = some (.nst fun x => x = tR (mkT n e))) (h : EvR F ks te (fun d => ∃ v, R v ∧ d = rw v)) (hi : Ev F ks ti (.int a)) (hj : Ev F ks tj (.int b)) (ha : a = (k : Int)) (hb : b = (m : Int)) (hkn : k < n) (hmn : m < n)
    (c : ∀ v, R v → Run F (ks.set i (.nst fun x => x = tR (mkT n (upT e k m v)))) u E) : Run F ks (tSeq (tAsg te (gSub (tOp (rIx F.K) (tVar i) ti) tj rSetL)) u) E := run_seq (run_setTR hk h hi hj ha hb hkn hmn (by
  have hl : i < ks.length := (List.getElem?_eq_some_iff.mp hk).1
  refine cont_openN (i := i) (List.getElem?_set_self hl) fun rows hr => ?_
  obtain ⟨v, hv, rfl⟩ := hr
  rw [List.set_set]
  exact c v hv))
/-- an if that may change something; both ways meet -/
theorem rs_joinB {tt : TT} {t u : TS} {b : Bool} (ks' : List Kd) (h : EvT F ks tt b) (h1 : b = true → ∀ N : Sg → Hp → Prop, Cont F ks' N → Run F ks t { E with nx := N }) (h2 : b = false → KsLe ks ks') (c : Run F ks' u E) : Run F ks (tSeq (tIfS tt t tNext) u) E :=
  rs_if h (fun e => h1 e (u E) c) fun e => rs_weak c (h2 e)
theorem run_asgGR {te : TE} {g : TG} {R : D → Prop} (h : EvR F ks te R) (c : ∀ d, R d → ∃ ks', GB F g ks d ks' ∧ Cont F ks' E.nx) : Run F ks (tAsg te g) E := fun M σ H o => h M σ H o _ fun v d H1 o1 s1 a1 r1 => by
  obtain ⟨ks', hg, hc⟩ := c d r1
  exact hg M σ H1 v o1 a1 _ fun σ' o2 => hc M σ' H1 o2
theorem rs_asgGR {te : TE} {g : TG} {R : D → Prop} {u : TS} (h : EvR F ks te R) (c : ∀ d, R d → ∃ ks', GB F g ks d ks' ∧ Run F ks' u E) : Run F ks (tSeq (tAsg te g) u) E := run_seq (run_asgGR h c)
/-! truth values -/
abbrev mB (m : List (List Bool)) : List (List D) := m.map fun r => r.map D.bl
structure Sh (s : Nat) (m : List (List Bool)) : Prop where
  len : m.length = s
  row : ∀ r ∈ m, r.length = s
theorem Sq.sh {s : Nat} {m : List (List Bool)} (S : Sq s m) : Sh s m := ⟨S.len, S.row⟩
theorem Sh.at {s : Nat} {m : List (List Bool)} (S : Sh s m) {i : Nat} (hi : i < s) : (m.getD i []).length = s ∧ m[i]? = some (m.getD i []) := by
  rw [List.getD_eq_getElem?_getD, List.getElem?_eq_getElem (by rw [S.len]; exact hi)]
  exact ⟨S.row _ (List.getElem_mem _), rfl⟩
theorem Sh.set {s : Nat} {m : List (List Bool)} (S : Sh s m) {i j : Nat} (hi : i < s) (b : Bool) : Sh s (bSet m i j b) := ⟨by unfold bSet; rw [List.length_set, S.len], fun r hr => by
  unfold bSet at hr
  rcases List.mem_or_eq_of_mem_set hr with h | h
  · exact S.row r h
  · rw [h, List.length_set]; exact (S.at hi).1⟩
theorem bAt_set {s : Nat} {m : List (List Bool)} (S : Sh s m) {i j k l : Nat} (hi : i < s) (hj : j < s) (b : Bool) : bAt (bSet m i j b) k l = if k = i ∧ l = j then b else bAt m k l := by
  unfold bAt bSet
  rw [getD_set [] (by rw [S.len]; exact hi)]
  by_cases c : k = i
  · rw [if_pos c]
    subst c
    rw [getD_set false (by rw [(S.at hi).1]; exact hj)]
    by_cases d : l = j
    · rw [if_pos d, if_pos ⟨rfl, d⟩]
    · rw [if_neg d, if_neg fun z => d z.2]
  · rw [if_neg c, if_neg fun z => c z.1]
theorem Sq.setT {s : Nat} {m : List (List Bool)} (S : Sq s m) {i j : Nat} (hi : i < s) (hj : j < s) : Sq s (bSet m i j true) := by
  have h := S.sh.set (j := j) hi true
  refine ⟨h.len, h.row, fun k hk => ?_⟩
  rw [bAt_set S.sh hi hj]
  split
  · rfl
  · exact S.dg k hk
theorem mB_at {s : Nat} {m : List (List Bool)} (S : Sh s m) {i j : Nat} {a b : Int} (ha : a = (i : Int)) (hb : b = (j : Int)) (hi : i < s) (hj : j < s) : ∃ r d, atI (mB m) a = some r ∧ atI r b = some d ∧ d = D.bl (bAt m i j) := by
  obtain ⟨h1, h2⟩ := S.at hi
  refine ⟨(m.getD i []).map D.bl, .bl (bAt m i j), ?_, ?_, rfl⟩
  · rw [ha]
    refine atI_nat ?_
    rw [List.getElem?_map, h2]
    rfl
  · rw [hb]
    exact at_getD false (by rw [h1]; exact hj)
theorem ev_mB {i s a b : Nat} {m : List (List Bool)} {ti tj : TE} {x y : Int} (hk : ks[i]? = some (.nst fun z => z = mB m)) (S : Sh s m) (hi : Ev F ks ti (.int x)) (hj : Ev F ks tj (.int y)) (hx : x = (a : Int)) (hy : y = (b : Int)) (ha : a < s) (hb : b < s) : Ev F ks (tOp (rIx F.K) (tOp (rIx F.K) (tVar i) ti) tj) (.bl (bAt m a b)) :=
  ev_ixN hk hi hj fun rows e => by rw [e]; exact mB_at S hx hy ha hb
theorem mB_set {s : Nat} {m : List (List Bool)} (S : Sh s m) {i j : Nat} {x y : Int} {b : Bool} (hx : x = (i : Int)) (hy : y = (j : Int)) (hi : i < s) (hj : j < s) : ∃ k l r, ixN (mB m).length x = some k ∧ (mB m)[k]? = some r ∧ ixN r.length y = some l ∧ (mB m).set k (r.set l (.bl b)) = mB (bSet m i j b) := by
  obtain ⟨h1, h2⟩ := S.at hi
  refine ⟨i, j, (m.getD i []).map D.bl, ixN_int hx (by rw [List.length_map, S.len]; exact hi), by rw [List.getElem?_map, h2]; rfl, ixN_int hy (by rw [List.length_map, h1]; exact hj), ?_⟩
  unfold mB bSet
  rw [List.map_set, List.map_set]
theorem run_setB {te ti tj : TE} {i s a b : Nat} {m : List (List Bool)} {v : Bool} {x y : Int} (hk : ks[i]? = some (.nst fun z => z = mB m)) (S : Sh s m) (h : Ev F ks te (.bl v)) (hi : Ev F ks ti (.int x)) (hj : Ev F ks tj (.int y)) (hx : x = (a : Int)) (hy : y = (b : Int)) (ha : a < s) (hb : b < s)
    (c : Cont F (ks.set i (.nst fun z => z = mB (bSet m a b v))) E.nx) : Run F ks (tAsg te (gSub (tOp (rIx F.K) (tVar i) ti) tj rSetL)) E :=
  run_setN hk h hi hj (fun rows d hr hd => by
    subst hd
    subst hr
    exact mB_set S hx hy ha hb) c
theorem run_setBQ {te ti tj : TE} {i s a b : Nat} {x y : Int} (hk : ks[i]? = some (.nst fun z => ∃ m, Sq s m ∧ z = mB m)) (h : Ev F ks te (.bl true)) (hi : Ev F ks ti (.int x)) (hj : Ev F ks tj (.int y)) (hx : x = (a : Int)) (hy : y = (b : Int)) (ha : a < s) (hb : b < s)
    (c : Cont F (ks.set i (.nst fun z => ∃ m, Sq s m ∧ z = mB m)) E.nx) : Run F ks (tAsg te (gSub (tOp (rIx F.K) (tVar i) ti) tj rSetL)) E :=
  run_setN hk h hi hj (fun rows d hr hd => by
    subst hd
    obtain ⟨m, S, rfl⟩ := hr
    obtain ⟨k, l, r, g1, g2, g3, g4⟩ := mB_set (b := true) S.sh hx hy ha hb
    exact ⟨k, l, r, g1, g2, g3, _, S.setT ha hb, g4⟩) c
end
theorem foldl_range {α : Type} (f : α → Nat → α) (a : α) (k : Nat) : (List.range (k + 1)).foldl f a = f ((List.range k).foldl f a) k := by
  rw [List.range_succ, List.foldl_append]
  rfl
theorem sh_fold {s : Nat} {f : List (List Bool) → Nat → List (List Bool)} (hf : ∀ m k, k < s → Sh s m → Sh s (f m k)) {m : List (List Bool)} (S : Sh s m) : ∀ k, k ≤ s → Sh s ((List.range k).foldl f m)
  | 0, _ => S
  | k + 1, h => by
    rw [foldl_range]
    exact hf _ k (by omega) (sh_fold hf S k (by omega))
theorem sh_wRow {s k i : Nat} (hi : i < s) {m : List (List Bool)} (S : Sh s m) : ∀ j, j ≤ s → Sh s ((List.range j).foldl (wStep k i) m) := sh_fold (fun m j _ S => S.set hi _) S
theorem sh_wAll {s k : Nat} {m : List (List Bool)} (S : Sh s m) : ∀ i, i ≤ s → Sh s ((List.range i).foldl (wRow s k) m) := sh_fold (fun m i hi S => sh_wRow hi S s (Nat.le_refl s)) S
theorem sh_wcl {s : Nat} {m : List (List Bool)} (S : Sh s m) : ∀ k, k ≤ s → Sh s ((List.range k).foldl (wAll s) m) := sh_fold (fun m k _ S => sh_wAll S s (Nat.le_refl s)) S
/-! pairs -/
abbrev prD (x : Nat × Nat) : D := .tup [.int (x.1 : Int), .int (x.2 : Int)]
theorem prD_inj (x y : Nat × Nat) (h : prD x = prD y) : x = y := by
  have h2 := D.tup.inj h
  injection h2 with a b
  injection b with b _
  have e1 := D.int.inj a
  have e2 := D.int.inj b
  exact Prod.ext (by omega) (by omega)
theorem prD_pln (x : Nat × Nat) : Pln 1 (prD x) := Pln.tup fun d hd => by
  rcases List.mem_cons.mp hd with e | hd
  · rw [e]; exact Pln.int _ 0
  · rw [List.mem_singleton.mp hd]; exact Pln.int _ 0
theorem prD_cln (x : Nat × Nat) : cln (prD x) = true := cln_tup fun d hd => by
  rcases List.mem_cons.mp hd with e | hd
  · rw [e]; exact cln_int _
  · rw [List.mem_singleton.mp hd]; exact cln_int _
theorem idx_spec {α : Type} [BEq α] [LawfulBEq α] {x : α} : ∀ {l : List α}, x ∈ l → l[l.idxOf x]? = some x ∧ ∀ m, m < l.idxOf x → l[m]? ≠ some x
  | [], h => absurd h (by simp)
  | y :: l, h => by
    rw [List.idxOf_cons]
    by_cases c : y = x
    · subst c
      simp
    · have hb : (y == x) = false := by simpa using c
      rw [hb]
      have h' : x ∈ l := by
        rcases List.mem_cons.mp h with e | h
        · exact absurd e.symm c
        · exact h
      obtain ⟨h1, h2⟩ := idx_spec h'
      refine ⟨by simpa using h1, fun m hm => ?_⟩
      cases m with
      | zero => simp; exact c
      | succ m =>
        rw [List.getElem?_cons_succ]
        exact h2 m (by simp at hm; omega)
section
variable {F : Fm} {ks : List Kd} {E : Ends}
theorem ev_idx {te tx : TE} {L : List (Nat × Nat)} {x : Nat × Nat} (h : Ev F ks te (.lst (L.map prD))) (hx : Ev F ks tx (prD x)) (hm : x ∈ L) : Ev F ks (tBM F.K "list" (rIndexD F.K) te (tCons tx tNil)) (.int ((L.idxOf x : Nat) : Int)) := by
  obtain ⟨h1, h2⟩ := idx_spec hm
  refine ev_index h hx (prD_pln x).ok ((Pln.lst (n := 1) (Pln.map fun x _ => prD_pln x)).ok) (z := prD x) (by rw [List.getElem?_map, h1]; rfl) (eqv_rfl (prD_pln x).1) fun m z' hm' hz => ?_
  rw [List.getElem?_map] at hz
  cases e : L[m]? with
  | none => rw [e] at hz; cases hz
  | some y =>
    rw [e] at hz
    cases hz
    rw [eqv_inj prD_inj (prD_cln y) (prD_cln x) (prD_pln y).1]
    exact decide_eq_false fun z => h2 m hm' (by rw [e, z])
theorem at_neg1 {α : Type} {f : Nat → α} {n : Nat} (h : 0 < n) : atI ((List.range n).map f) (-1) = some (f (n - 1)) := by
  unfold atI ixN
  rw [if_neg (by omega), List.length_map, List.length_range, if_pos (by omega)]
  show ((List.range n).map f)[(-1 + (n : Int)).toNat]? = _
  rw [show (-1 + (n : Int)).toNat = n - 1 by omega, List.getElem?_map, List.getElem?_range (by omega)]
  rfl
end
end Dl
set_option Elab.async false
set_option linter.all false
set_option maxHeartbeats 2000000
/-! SpMath: spaces of elements: how many, the law's own reduced table, products, closures. -/
namespace Dl
open PySem L2
section
variable {p : Int} {n : Nat} {T : List (List (List Int))} {one : List Int}
theorem spanL_le (hP : PR p) {rows : List (List Int)} (hR : Vcs p n rows) : (spanL p n rows).length ≤ p.toNat ^ n := by
  rw [← mAll_len]
  exact nodup_sub_len (nodup_spanL hP hR) fun v hv => mem_mAll.mpr (((mem_spanL hP hR v).mp hv).vc hP.pos hR)
theorem mSpan_len {rows : List (List Int)} : (mSpan p n rows).length = (spanL p n rows).length := List.length_mergeSort _
/-! ### the law's own reduced table -/
def lpiv (n : Nat) (W : List (List Int)) : List Nat := (List.range n).filter fun a => decide (0 < (W.filter fun w => !decide (cf w a = 0) && decide ((w.take a).sum = 0)).length)
def lred (n : Nat) (W : List (List Int)) : List (List Int) := (lpiv n W).flatMap fun a => W.filter fun w => decide ((lpiv n W).map (cf w) = (lpiv n W).map fun x => if x = a then 1 else 0)
theorem sum_zero : ∀ {l : List Int}, (∀ x ∈ l, 0 ≤ x) → (l.sum = 0 ↔ ∀ x ∈ l, x = 0)
  | [], _ => ⟨fun _ x h => absurd h (by simp), fun _ => rfl⟩
  | a :: l, h => by
    have h0 := h a List.mem_cons_self
    have hl := fun x hx => h x (List.mem_cons_of_mem _ hx)
    have ih := sum_zero hl
    have hs : 0 ≤ l.sum := by
      clear ih h
      induction l with
      | nil => exact Int.le_refl 0
      | cons b l ih =>
        rw [List.sum_cons]
        have := hl b List.mem_cons_self
        have := ih fun x hx => hl x (List.mem_cons_of_mem _ hx)
        omega
    rw [List.sum_cons]
    constructor
    · intro e x hx
      have ha : a = 0 := by omega
      have hl0 : l.sum = 0 := by omega
      rcases List.mem_cons.mp hx with e | hx
      · rw [e]; exact ha
      · exact ih.mp hl0 x hx
    · intro e
      rw [e a List.mem_cons_self, ih.mpr fun x hx => e x (List.mem_cons_of_mem _ hx)]
      rfl
theorem low_zero (hP : PR p) {w : List Int} (hw : Vc p n w) {a : Nat} (ha : a < n) : (w.take a).sum = 0 ↔ ∀ k, k < a → cf w k = 0 := by
  rw [sum_zero fun x hx => (hw.2 x (List.mem_of_mem_take hx)).1]
  constructor
  · intro h k hk
    rw [cf_lt (by rw [hw.1]; omega)]
    refine h _ ?_
    rw [List.mem_take_iff_getElem]
    exact ⟨k, by rw [hw.1]; omega, rfl⟩
  · intro h x hx
    rw [List.mem_take_iff_getElem] at hx
    obtain ⟨k, hk, rfl⟩ := hx
    have := h k (by omega)
    rw [cf_lt (by omega)] at this
    exact this
theorem lpiv_eq (hP : PR p) {rows : List (List Int)} (hR : Vcs p n rows) : lpiv n (mSpan p n rows) = (mRed p n rows).map mPv := by
  have hF := (red_form hP hR).1
  have hA := red_vcs hP hR
  have hin := red_in hP hR
  refine sorted_eq (List.Pairwise.filter _ List.pairwise_lt_range) hF.sorted fun a => ?_
  unfold lpiv
  rw [List.mem_filter, List.mem_range, decide_eq_true_iff, List.length_pos_iff_exists_mem, List.mem_map]
  constructor
  · rintro ⟨ha, w, hw⟩
    rw [List.mem_filter, mSpan_in hP hR, Bool.and_eq_true] at hw
    obtain ⟨h1, h2, h3⟩ := hw
    have hwv := h1.vc hP.pos hR
    have hl := lead ((low_zero hP hwv ha).mp (of_decide_eq_true h3)) (by simpa using h2)
    obtain ⟨r, hr, e⟩ := in_lead hP.pos hF hA ((hin w).mpr h1) hl.1
    exact ⟨r, hr, e.trans hl.2⟩
  · rintro ⟨r, hr, rfl⟩
    have hrv := hA r hr
    have hne : nz r ≠ [] := by
      obtain ⟨i, hi, e⟩ := hF.pvs hr
      rw [← e]
      exact hF.ne i hi
    have hlt := hF.pvn hr
    obtain ⟨g1, g2⟩ := nz_low hne
    refine ⟨hlt, r, ?_⟩
    rw [List.mem_filter, mSpan_in hP hR, Bool.and_eq_true]
    exact ⟨(hin r).mp (In.row hP.pos hA hP.two hr), by simpa using g2, decide_eq_true ((low_zero hP hrv hlt).mpr g1)⟩
theorem mSpan_nodup (hP : PR p) {rows : List (List Int)} (hR : Vcs p n rows) : (mSpan p n rows).Nodup := (List.mergeSort_perm _ _).nodup_iff.mpr (nodup_spanL hP hR)
theorem lred_eq (hP : PR p) {rows : List (List Int)} (hR : Vcs p n rows) : lred n (mSpan p n rows) = mRed p n rows := by
  have hF := (red_form hP hR).1
  have hA := red_vcs hP hR
  have hin := red_in hP hR
  unfold lred
  rw [lpiv_eq hP hR, List.flatMap_map]
  have key : ∀ r ∈ mRed p n rows, ((mSpan p n rows).filter fun w => decide (((mRed p n rows).map mPv).map (cf w) = ((mRed p n rows).map mPv).map fun x => if x = mPv r then 1 else 0)) = [r] := fun r hr => by
    have hrv := hA r hr
    refine single (List.Pairwise.filter _ (mSpan_nodup hP hR)) fun w => ?_
    rw [List.mem_filter, mSpan_in hP hR, decide_eq_true_iff, List.map_map, List.map_map]
    have conv : (List.map (cf w ∘ mPv) (mRed p n rows) = List.map ((fun x => if x = mPv r then 1 else 0) ∘ mPv) (mRed p n rows)) ↔ ∀ s ∈ mRed p n rows, cf w (mPv s) = if mPv s = mPv r then 1 else 0 := List.map_inj_left
    rw [conv]
    constructor
    · rintro ⟨h1, h2⟩
      have hwv := h1.vc hP.pos hR
      have hd : In p n (mRed p n rows) (mAdd p w (mScl p (-1) r)) := In.sum hP.pos hA ((hin w).mpr h1) (In.scl hP.pos hA (In.row hP.pos hA hP.two hr))
      have h0 := in_zero hP.pos hF hA hd fun s hs => by
        rw [cf_add (by rw [scl_len, hwv.1, hrv.1]), cf_scl, h2 s hs, Int.add_emod_emod]
        by_cases e : mPv s = mPv r
        · rw [if_pos e, e, one_piv hF hr]
          simp
        · rw [if_neg e, off_piv hF hr hs e]
          simp
      refine vext hP.pos hwv hrv fun k => ?_
      have := congrArg (fun v => cf v k) h0
      simp only [cf_zer] at this
      rw [cf_add (by rw [scl_len, hwv.1, hrv.1]), cf_scl, Int.add_emod_emod] at this
      have e2 : (cf w k + cf r k * -1) = cf w k - cf r k := by omega
      rw [e2] at this
      exact Int.emod_eq_emod_iff_emod_sub_eq_zero.mpr this
    · rintro rfl
      refine ⟨(hin w).mp (In.row hP.pos hA hP.two hr), fun s hs => ?_⟩
      by_cases e : mPv s = mPv w
      · rw [if_pos e, e, one_piv hF hr]
      · rw [if_neg e, off_piv hF hr hs e]
  have : ∀ l : List (List Int), (∀ r ∈ l, r ∈ mRed p n rows) → (l.flatMap fun r => (mSpan p n rows).filter fun w => decide (((mRed p n rows).map mPv).map (cf w) = ((mRed p n rows).map mPv).map fun x => if x = mPv r then 1 else 0)) = l := fun l => by
    induction l with
    | nil => intro _; rfl
    | cons r l ih =>
      intro h
      rw [List.flatMap_cons, key r (h r List.mem_cons_self), ih fun x hx => h x (List.mem_cons_of_mem _ hx)]
      rfl
  exact this _ fun r hr => hr
/-! ### images -/
theorem lin_in (hP : PR p) {m : Nat} {f : List Int → List Int} (L : Lin p n m f) {A B : List (List Int)} (hA : Vcs p n A) (hB : Vcs p m B) (h : ∀ r ∈ A, In p m B (f r)) {v : List Int} (hv : In p n A v) : In p m B (f v) := by
  induction hv with
  | zero => rw [L.zer hP]; exact .zero
  | add a hw hr ih =>
    have hwv := hw.vc hP.pos hA
    have hrv := hA _ hr
    rw [L.add _ _ hwv (hrv.scl' hP.pos), L.scl _ _ hrv]
    exact In.sum hP.pos hB ih (In.scl hP.pos hB (h _ hr))
/-! ### products -/
def prodL (p : Int) (n : Nat) (T : List (List (List Int))) (X Y : List (List Int)) : List (List Int) := X.flatMap fun x => Y.map fun y => mMul p n T x y
theorem prodL_vcs (hP : PR p) (X Y : List (List Int)) : Vcs p n (prodL p n T X Y) := fun v hv => by
  obtain ⟨x, _, h⟩ := List.mem_flatMap.mp hv
  obtain ⟨y, _, rfl⟩ := List.mem_map.mp h
  exact mul_vc hP.pos
theorem prodL_mem {X Y : List (List Int)} {x y : List Int} (hx : x ∈ X) (hy : y ∈ Y) : mMul p n T x y ∈ prodL p n T X Y := List.mem_flatMap.mpr ⟨x, hx, List.mem_map.mpr ⟨y, hy, rfl⟩⟩
theorem prod_in (hP : PR p) {X Y : List (List Int)} (hX : Vcs p n X) (hY : Vcs p n Y) {x y : List Int} (hx : In p n X x) (hy : In p n Y y) : In p n (prodL p n T X Y) (mMul p n T x y) :=
  lin_in hP (mul_linl hP (T := T) y) hX (prodL_vcs hP X Y) (fun r hr => lin_in hP (mul_linr hP (T := T) r) hY (prodL_vcs hP X Y) (fun s hs => In.row hP.pos (prodL_vcs hP X Y) hP.two (prodL_mem hr hs)) hy) hx
theorem prod_min (hP : PR p) {X Y B : List (List Int)} (hB : Vcs p n B) (h : ∀ x ∈ X, ∀ y ∈ Y, In p n B (mMul p n T x y)) {v : List Int} (hv : In p n (prodL p n T X Y) v) : In p n B v := hv.mono hP.pos hB fun r hr => by
  obtain ⟨x, hx, h2⟩ := List.mem_flatMap.mp hr
  obtain ⟨y, hy, rfl⟩ := List.mem_map.mp h2
  exact h x hx y hy
theorem prod_same (hP : PR p) {X Y X' Y' : List (List Int)} (hX : Vcs p n X) (hY : Vcs p n Y) (hX' : Vcs p n X') (hY' : Vcs p n Y') (hx : ∀ v, In p n X v ↔ In p n X' v) (hy : ∀ v, In p n Y v ↔ In p n Y' v) (v : List Int) : In p n (prodL p n T X Y) v ↔ In p n (prodL p n T X' Y') v :=
  ⟨prod_min hP (prodL_vcs hP _ _) fun x hx1 y hy1 => prod_in hP hX' hY' ((hx x).mp (In.row hP.pos hX hP.two hx1)) ((hy y).mp (In.row hP.pos hY hP.two hy1)),
   prod_min hP (prodL_vcs hP _ _) fun x hx1 y hy1 => prod_in hP hX hY ((hx x).mpr (In.row hP.pos hX' hP.two hx1)) ((hy y).mpr (In.row hP.pos hY' hP.two hy1))⟩
/-! ### closures -/
/-- the products of x and an element of the basis, from the sides that are asked for -/
def sided (p : Int) (n : Nat) (T : List (List (List Int))) (bl br : Bool) (x : List Int) (k : Nat) : List (List Int) := (if bl then [mMul p n T (unitR n k) x] else []) ++ (if br then [mMul p n T x (unitR n k)] else [])
def Clo (p : Int) (n : Nat) (T : List (List (List Int))) (bl br : Bool) (B : List (List Int)) : Prop := ∀ v, In p n B v → ∀ k, k < n → ∀ y ∈ sided p n T bl br v k, In p n B y
theorem mem_sided {bl br : Bool} {x y : List Int} {k : Nat} : y ∈ sided p n T bl br x k ↔ (bl = true ∧ y = mMul p n T (unitR n k) x) ∨ (br = true ∧ y = mMul p n T x (unitR n k)) := by
  unfold sided
  cases bl <;> cases br <;> simp
theorem clo_of (hP : PR p) {bl br : Bool} {B : List (List Int)} (hB : Vcs p n B) (h : ∀ r ∈ B, ∀ k, k < n → ∀ y ∈ sided p n T bl br r k, In p n B y) : Clo p n T bl br B := fun v hv k hk y hy => by
  rcases mem_sided.mp hy with ⟨e, rfl⟩ | ⟨e, rfl⟩
  · exact lin_in hP (mul_linr hP (T := T) (unitR n k)) hB hB (fun r hr => h r hr k hk _ (mem_sided.mpr (.inl ⟨e, rfl⟩))) hv
  · exact lin_in hP (mul_linl hP (T := T) (unitR n k)) hB hB (fun r hr => h r hr k hk _ (mem_sided.mpr (.inr ⟨e, rfl⟩))) hv
structure IsClo (p : Int) (n : Nat) (T : List (List (List Int))) (bl br : Bool) (rows F : List (List Int)) : Prop where
  vc : Vcs p n F
  sub : ∀ r ∈ rows, In p n F r
  cl : Clo p n T bl br F
  min : ∀ B, Vcs p n B → (∀ r ∈ rows, In p n B r) → Clo p n T bl br B → ∀ v, In p n F v → In p n B v
theorem IsClo.uni {bl br : Bool} {rows F G : List (List Int)} (a : IsClo p n T bl br rows F) (b : IsClo p n T bl br rows G) (v : List Int) : In p n F v ↔ In p n G v := ⟨a.min G b.vc b.sub b.cl v, b.min F a.vc a.sub a.cl v⟩
theorem IsClo.same {bl br : Bool} {rows F G : List (List Int)} (a : IsClo p n T bl br rows F) (hG : Vcs p n G) (h : ∀ v, In p n G v ↔ In p n F v) : IsClo p n T bl br rows G :=
  ⟨hG, fun r hr => (h r).mpr (a.sub r hr), fun v hv k hk y hy => (h y).mpr (a.cl v ((h v).mp hv) k hk y hy), fun B h1 h2 h3 v hv => a.min B h1 h2 h3 v ((h v).mp hv)⟩
/-- the left ideal -/
theorem clo_left (A : IsAlg p n T one) {rows S : List (List Int)} (hR : Vcs p n rows) (hS : Vcs p n S) (hs : ∀ v, In p n S v ↔ In p n rows v) : IsClo p n T true false rows (prodL p n T (units n) S) := by
  have hP := A.pr
  have hU := units_vcs hP (n := n)
  refine ⟨prodL_vcs hP _ _, fun r hr => ?_, clo_of hP (prodL_vcs hP _ _) fun r hr k hk y hy => ?_, fun B hB h1 h2 v hv => prod_min hP hB (fun x hx y hy => ?_) hv⟩
  · have := prod_in hP (T := T) hU hS (in_units hP A.ov) ((hs r).mpr (In.row hP.pos hR hP.two hr))
    rw [A.onel _ (hR r hr)] at this
    exact this
  · rcases mem_sided.mp hy with ⟨_, rfl⟩ | ⟨e, _⟩
    · obtain ⟨x, hx, h⟩ := List.mem_flatMap.mp hr
      obtain ⟨s, hs1, rfl⟩ := List.mem_map.mp h
      rw [← A.ass _ _ _ (unitR_vc hP.two n k) (hU x hx) (hS s hs1)]
      exact prod_in hP hU hS (in_units hP (mul_vc hP.pos)) (In.row hP.pos hS hP.two hs1)
    · cases e
  · obtain ⟨k, hk, rfl⟩ := List.mem_map.mp hx
    have hyB : In p n B y := ((hs y).mp (In.row hP.pos hS hP.two hy)).mono hP.pos hB h1
    exact h2 y hyB k (List.mem_range.mp hk) _ (mem_sided.mpr (.inl ⟨rfl, rfl⟩))
theorem clo_right (A : IsAlg p n T one) {rows S : List (List Int)} (hR : Vcs p n rows) (hS : Vcs p n S) (hs : ∀ v, In p n S v ↔ In p n rows v) : IsClo p n T false true rows (prodL p n T S (units n)) := by
  have hP := A.pr
  have hU := units_vcs hP (n := n)
  refine ⟨prodL_vcs hP _ _, fun r hr => ?_, clo_of hP (prodL_vcs hP _ _) fun r hr k hk y hy => ?_, fun B hB h1 h2 v hv => prod_min hP hB (fun x hx y hy => ?_) hv⟩
  · have := prod_in hP (T := T) hS hU ((hs r).mpr (In.row hP.pos hR hP.two hr)) (in_units hP A.ov)
    rw [A.oner _ (hR r hr)] at this
    exact this
  · rcases mem_sided.mp hy with ⟨e, _⟩ | ⟨_, rfl⟩
    · cases e
    · obtain ⟨s, hs1, h⟩ := List.mem_flatMap.mp hr
      obtain ⟨x, hx, rfl⟩ := List.mem_map.mp h
      rw [A.ass _ _ _ (hS s hs1) (hU x hx) (unitR_vc hP.two n k)]
      exact prod_in hP hS hU (In.row hP.pos hS hP.two hs1) (in_units hP (mul_vc hP.pos))
  · obtain ⟨k, hk, rfl⟩ := List.mem_map.mp hy
    have hyB : In p n B x := ((hs x).mp (In.row hP.pos hS hP.two hx)).mono hP.pos hB h1
    exact h2 x hyB k (List.mem_range.mp hk) _ (mem_sided.mpr (.inr ⟨rfl, rfl⟩))
theorem clo_both (A : IsAlg p n T one) {rows LI : List (List Int)} (hR : Vcs p n rows) (C : IsClo p n T true false rows LI) : IsClo p n T true true rows (prodL p n T LI (units n)) := by
  have hP := A.pr
  have hU := units_vcs hP (n := n)
  have hL := C.vc
  refine ⟨prodL_vcs hP _ _, fun r hr => ?_, clo_of hP (prodL_vcs hP _ _) fun r hr k hk y hy => ?_, fun B hB h1 h2 v hv => prod_min hP hB (fun x hx y hy => ?_) hv⟩
  · have := prod_in hP (T := T) hL hU (C.sub r hr) (in_units hP A.ov)
    rw [A.oner _ (hR r hr)] at this
    exact this
  · obtain ⟨s, hs1, h⟩ := List.mem_flatMap.mp hr
    obtain ⟨x, hx, rfl⟩ := List.mem_map.mp h
    rcases mem_sided.mp hy with ⟨_, rfl⟩ | ⟨_, rfl⟩
    · rw [← A.ass _ _ _ (unitR_vc hP.two n k) (hL s hs1) (hU x hx)]
      exact prod_in hP hL hU (C.cl s (In.row hP.pos hL hP.two hs1) k hk _ (mem_sided.mpr (.inl ⟨rfl, rfl⟩))) (In.row hP.pos hU hP.two hx)
    · rw [A.ass _ _ _ (hL s hs1) (hU x hx) (unitR_vc hP.two n k)]
      exact prod_in hP hL hU (In.row hP.pos hL hP.two hs1) (in_units hP (mul_vc hP.pos))
  · obtain ⟨k, hk, rfl⟩ := List.mem_map.mp hy
    have hl : Clo p n T true false B := fun v hv k hk y hy => by
      rcases mem_sided.mp hy with ⟨_, rfl⟩ | ⟨e, _⟩
      · exact h2 v hv k hk _ (mem_sided.mpr (.inl ⟨rfl, rfl⟩))
      · cases e
    exact h2 x (C.min B hB h1 hl x (In.row hP.pos hL hP.two hx)) k (List.mem_range.mp hk) _ (mem_sided.mpr (.inr ⟨rfl, rfl⟩))
/-- one with no more elements -/
theorem in_of_len (hP : PR p) {A B : List (List Int)} (hA : Vcs p n A) (hB : Vcs p n B) (h : ∀ v, In p n A v → In p n B v) (hl : (spanL p n B).length ≤ (spanL p n A).length) (v : List Int) (hv : In p n B v) : In p n A v :=
  (mem_spanL hP hA v).mp (nodup_all (nodup_spanL hP hA) (fun x hx => (mem_spanL hP hB x).mpr (h x ((mem_spanL hP hA x).mp hx))) hl v ((mem_spanL hP hB v).mpr hv))
/-- a space is closed exactly if closing adds nothing -/
theorem clo_len (hP : PR p) {bl br : Bool} {R F : List (List Int)} (hR : Vcs p n R) (C : IsClo p n T bl br R F) : (spanL p n R).length = (spanL p n F).length ↔ Clo p n T bl br R := by
  have sub : ∀ v, In p n R v → In p n F v := fun v hv => hv.mono hP.pos C.vc C.sub
  constructor
  · intro e v hv k hk y hy
    exact in_of_len hP hR C.vc sub (by omega) y (C.cl v (sub v hv) k hk y hy)
  · intro h
    exact spanL_count hP hR C.vc fun v => ⟨sub v, C.min R hR (fun r hr => In.row hP.pos hR hP.two hr) h v⟩
end
theorem run_dropR {F : Fm} {ks : List Kd} {E : Ends} {te : TE} {R : D → Prop} (h : EvR F ks te R) (c : (∃ d, R d) → Cont F ks E.nx) : Run F ks (tDrop te) E := fun M σ H o => h M σ H o _ fun v d H1 o1 s1 a1 r1 => c ⟨d, r1⟩ M σ H1 o1
theorem form_n {n : Nat} {A : List (List Int)} (hF : InForm n A) : A.length ≤ n := by
  have h := nodup_sub_len (l := A.map mPv) (m := List.range n) (hF.sorted.imp fun h => Nat.ne_of_lt h) fun a ha => by
    obtain ⟨r, hr, rfl⟩ := List.mem_map.mp ha
    exact List.mem_range.mpr (hF.pvn hr)
  rw [List.length_map, List.length_range] at h
  exact h
theorem red_n {p : Int} {n : Nat} {rows : List (List Int)} (hP : PR p) (h : Vcs p n rows) : (mRed p n rows).length ≤ n := form_n (red_form hP h).1
end Dl
set_option Elab.async false
set_option linter.all false
set_option maxRecDepth 100000
set_option maxHeartbeats 2000000
/-! OwnC: a list of one's own, lent to a callee that only reads it; copied. -/
namespace Dl
open PySem PySem.Spec PyProof.Rows L2
section
variable {F : Fm} {ks : List Kd} {E : Ends}
/-- rows are seen ahead of more hidden lists too -/
theorem ats_rows {K : PySem.W.Frag} {M M' : List Addr} {H : Hp} (h : ∀ b, b ∈ M → b ∉ M' → ∃ vs, H b = some (.lst vs)) : ∀ {rows : List (List Int)} {ws : List V}, Ats K (hid M' H) ws (rws rows) → Ats K (hid M H) ws (rws rows)
  | [], _, .nil => .nil
  | r :: rows, _, .cons a1 a2 => by
    refine .cons ?_ (ats_rows h a2)
    have itsR : ∀ {xs : List V} {l : List Int}, Ats K (hid M' H) xs (l.map D.int) → Ats K (hid M H) xs (l.map D.int) := by
      intro xs l
      induction l generalizing xs with
      | nil => intro a; cases a; exact .nil
      | cons i l ih =>
        intro a
        cases a with
        | cons b1 b2 =>
          cases b1
          exact .cons (.int i) (ih b2)
    cases a1 with
    | tup hl hs =>
      refine .tup ?_ (itsR hs)
      have out : ∀ {c : Addr} {u : HO}, hid M' H c = some u → (∀ vs, u ≠ .lst vs) → hid M H c = some u := fun {c u} e ne => by
        have n1 : c ∉ M' := fun z => by rw [hid_in z] at e; cases e
        rw [hid_out n1] at e
        rw [hid_out (fun z => by
          obtain ⟨vs, e2⟩ := h _ z n1
          rw [e2] at e
          cases e
          exact ne _ rfl), e]
      rcases hl with (hl | ⟨ob, hl⟩) | hl
      · exact .inl (.inl (out hl fun _ z => by cases z))
      · exact .inl (.inr ⟨ob, out hl fun _ z => by cases z⟩)
      · exact .inr hl
/-- a call that reads a list of one's own and gives a new list of rows -/
theorem el_callB {S : List D → (List D → Prop) → Prop} {E0 : XK} {ta : TA} {i : Nat} {k : Kd} {ds0 es : List D} {T : List D → Prop} (hk : ks[i]? = some k) (hm : isM k = true) (hφ : ∀ x, wishK k x → x = ds0) (h : EvA F ks ta es) (hS : S (.lst ds0 :: es) T) (hT : ∀ ds, T ds → ∃ rows, ds = rws rows) :
    EvLR F ks (tCall (spL S F.K) [] E0 (tCons (tVar i) ta)) T := fun M σ H o Q q => by
  obtain ⟨p, h1, _⟩ := o.wish hk hm
  refine ⟨.ref p, h1, ?_⟩
  refine h M σ H o _ fun vs ds H1 o1 s1 a1 r1 => ?_
  subst r1
  obtain ⟨p', h1', h2, h3, vs0, ds1, h4, h5, h6⟩ := o1.wish hk hm
  rw [h1] at h1'
  cases h1'
  have e0 := hφ _ h6
  subst e0
  have hsub : Same (hid M H1) (hid (M.filter fun b => b != p) H1) := hid_sub fun b hb => (List.mem_filter.mp hb).1
  have hp : p ∉ M.filter fun b => b != p := fun z => by simpa using (List.mem_filter.mp z).2
  refine ⟨M.filter fun b => b != p, .lst ds1 :: ds, T, ?_, fun a ha => o1.live a (List.mem_filter.mp ha).1, hS, fun p2 ws es H' t n sm l a => ?_⟩
  · rw [List.append_nil]
    exact .cons (.lst (by rw [hid_out hp]; exact h4) (h5.mono hsub)) (a1.mono hsub)
  have e : hid (p2 :: M) (upd H1 p2 (.lst ws)) = hid M H1 := hid_new n
  have sm2 : Same (upd H1 p2 (.lst ws)) H' := fun b u hb => by
    by_cases q : b = p2
    · subst q
      rw [upd_same] at hb
      cases hb
      exact l
    · rw [upd_ne q] at hb
      exact sm b u hb
  refine q p2 ws es H' ?_ ((o1.hide n).same sm2) (s1.trans (.of sm)) l ?_ t
  · cases e : H p2 with
    | none => rfl
    | some u =>
      rw [s1 _ _ e (o1.noOwn n)] at n
      cases n
  · obtain ⟨rows, rfl⟩ := hT es t
    refine ats_rows (fun b hb nb => ?_) a
    rcases List.mem_cons.mp hb with z | z
    · exact absurd (by rw [z]; exact List.mem_cons_self) nb
    · have eb : b = p := by
        refine Classical.byContradiction fun w => nb (List.mem_cons_of_mem _ (List.mem_filter.mpr ⟨z, by simpa using w⟩))
      rw [eb]
      exact ⟨_, sm _ _ h4⟩
/-- list(x), x a list of one's own -/
theorem el_lstO {i : Nat} {k : Kd} {ds0 : List D} (hk : ks[i]? = some k) (hm : isM k = true) (hφ : ∀ x, wishK k x → x = ds0) : EvL F ks (tCB (rLstOf F.K) (tCons (tVar i) tNil)) ds0 := fun M σ H o Q q => by
  obtain ⟨p, h1, h2, h3, vs, ds, h4, h5, h6⟩ := o.wish hk hm
  have e0 := hφ _ h6
  subst e0
  refine ⟨.ref p, h1, _, _, rfl, .inl (.inl (.inl h4)), fun p2 n => ?_⟩
  obtain ⟨o2, s2, l2, a2⟩ := lst_new o h5 n
  exact q _ _ _ _ n o2 s2 l2 a2 rfl
end
end Dl
set_option Elab.async false
set_option linter.all false
set_option maxRecDepth 100000
set_option maxHeartbeats 2000000
/-! SumT: the sum of a list or tuple of integers. -/
namespace Dl
open PySem PySem.Spec PySem.Calls PyProof.Rows PyProof.V L2
def rSumG (K : PySem.W.Frag) : List V → Hp → VK → Prop := fun vs H Q => ∃ (a : Addr) (ns : List Int), vs = [V.ref a] ∧ (SqL K H a (ns.map V.int) ∨ SqT K H a (ns.map V.int)) ∧ Q (.int ns.sum) H
theorem cr_sumG {X : Cx} (K : PySem.W.Frag) (hc : X.calm = true) (hK : X.K = K := by rfl) : CallR X (.builtin "sum") (rSumG K) := by
  subst hK
  intro pins s σ H vs us Q I r h
  obtain ⟨a, ns, rfl, hs, q⟩ := h
  rcases hs with hs | hs
  · exact cr_sum hc pins s σ H _ us Q I r ⟨a, ns, rfl, hs, q⟩
  · obtain ⟨its, rv, hl, _⟩ := I.tuple hs
    rw [Vals.ref1 r]
    have hi := rv.ints
    obtain ⟨xs, e⟩ := hi.allInts.items
    have hn : numsOf (intItems xs).toList = ns := by rw [← e]; exact hi.numsOf
    rw [nums_intItems] at hn
    rw [e] at hl
    refine PySem.W.ktm_sumG (I.ok.hd hc) hl fun h' tk t' hk => ?_
    rw [preSum_eq, List.take_of_length_le (by simp), hn]
    exact ⟨.int _, H, I.kept hk, ⟨_, rfl⟩, q⟩
section
variable {F : Fm} {ks : List Kd}
theorem cav_sumT {ns : List Int} : CaV F ks (rSumG F.K) [.tup (ns.map D.int)] (fun d => d = .int ns.sum) := fun M σ H o vs a Q q => by
  cases a with
  | cons a1 a2 =>
    cases a2
    cases a1 with
    | tup hl hs =>
      have e := hs.ints
      subst e
      exact ⟨_, ns, rfl, .inr (same_t hid_same hl), q _ _ H o .refl (.int _) rfl⟩
end
theorem cutG_take {α : Type} {xs : List α} {k : Nat} (h : k ≤ xs.length) : cutG xs none (some ((0 : Int) + (k : Nat))) = xs.take k := by
  unfold cutG
  rw [Int.zero_add, HT.sIx_nat, HT.sIx_none, Nat.min_eq_left h]
  rfl
theorem eqv_lints (v w : List Int) : PyData.eqv (py (.lst (v.map D.int))) (py (.lst (w.map D.int))) = decide (v = w) := eqv_inj (f := fun l : List Int => D.lst (l.map D.int)) (fun a b h => by
  have h' : a.map D.int = b.map D.int := by injection h
  exact rw_inj (by show D.tup _ = D.tup _; rw [h'])) (cln_lst (cln_map fun x _ => cln_int x)) (cln_lst (cln_map fun x _ => cln_int x)) (Pln.lst (n := 1) (Pln.map fun x _ => Pln.int x 1)).1
theorem okD_lints (v : List Int) : okD (.lst (v.map D.int)) = true := (Pln.lst (n := 1) (Pln.map fun x _ => Pln.int x 1)).ok
theorem mSpan_units {p : Int} {n : Nat} (hP : PR p) : mSpan p n (units n) = mAll p n := by
  rw [mSpan_filter hP (units_vcs hP) (b := fun _ => true) fun v hv => ⟨fun _ => in_units hP hv, fun _ => rfl⟩]
  simp
end Dl
set_option Elab.async false
set_option linter.all false
set_option maxRecDepth 100000
set_option maxHeartbeats 2000000
/-! ClMath: closing a space turn by turn, as the law does. -/
namespace Dl
open PySem L2
section
variable {p : Int} {n : Nat} {T : List (List (List Int))} {bl br : Bool} {rows : List (List Int)}
/-- on the way to the closure -/
structure Gw (p : Int) (n : Nat) (T : List (List (List Int))) (bl br : Bool) (rows F : List (List Int)) : Prop where
  vc : Vcs p n F
  sub : ∀ r ∈ rows, In p n F r
  min : ∀ B, Vcs p n B → (∀ r ∈ rows, In p n B r) → Clo p n T bl br B → ∀ v, In p n F v → In p n B v
  len : F.length ≤ rows.length + (spanL p n F).length
theorem Gw.start (hP : PR p) (hR : Vcs p n rows) : Gw p n T bl br rows rows := ⟨hR, fun r hr => In.row hP.pos hR hP.two hr, fun B hB h _ v hv => hv.mono hP.pos hB h, Nat.le_add_right _ _⟩
/-- since F0 -/
structure Wk (p : Int) (n : Nat) (T : List (List (List Int))) (bl br : Bool) (rows F0 F : List (List Int)) (g : Bool) (Dn : List Int → Prop) : Prop where
  gw : Gw p n T bl br rows F
  le : (spanL p n F0).length + (if g then 1 else 0) ≤ (spanL p n F).length
  un : g = false → F = F0 ∧ ∀ y, Dn y → In p n F0 y
theorem Wk.start {F0 : List (List Int)} (G : Gw p n T bl br rows F0) : Wk p n T bl br rows F0 F0 false (fun _ => False) := ⟨G, Nat.le_refl _, fun _ => ⟨rfl, fun _ h => h.elim⟩⟩
theorem Wk.imp {F0 F : List (List Int)} {g : Bool} {Dn Dn' : List Int → Prop} (W : Wk p n T bl br rows F0 F g Dn) (h : ∀ y, Dn' y → Dn y) : Wk p n T bl br rows F0 F g Dn' := ⟨W.gw, W.le, fun e => ⟨(W.un e).1, fun y hy => (W.un e).2 y (h y hy)⟩⟩
theorem Wk.old {F0 F : List (List Int)} {g : Bool} {Dn : List Int → Prop} (W : Wk p n T bl br rows F0 F g Dn) {y : List Int} (h : In p n F y) : Wk p n T bl br rows F0 F g (fun z => Dn z ∨ z = y) := ⟨W.gw, W.le, fun e => ⟨(W.un e).1, fun z hz => by
  rcases hz with hz | rfl
  · exact (W.un e).2 z hz
  · rw [← (W.un e).1]; exact h⟩⟩
theorem Wk.new (hP : PR p) {F0 F : List (List Int)} {g : Bool} {Dn Dn' : List Int → Prop} (G0 : Gw p n T bl br rows F0) (W : Wk p n T bl br rows F0 F g Dn) {x y : List Int} {k : Nat} (hx : x ∈ F0) (hk : k < n) (hy : y ∈ sided p n T bl br x k) (h : ¬ In p n F y) : Wk p n T bl br rows F0 (F ++ [y]) true Dn' := by
  have hyv : Vc p n y := by
    rcases mem_sided.mp hy with ⟨_, rfl⟩ | ⟨_, rfl⟩
    · exact mul_vc hP.pos
    · exact mul_vc hP.pos
  have hV : Vcs p n (F ++ [y]) := fun v hv => by
    rcases List.mem_append.mp hv with hv | hv
    · exact W.gw.vc v hv
    · rw [List.mem_singleton.mp hv]; exact hyv
  have hs : ∀ v, In p n F v → In p n (F ++ [y]) v := fun v hv => hv.sub fun r hr => List.mem_append_left _ hr
  have hyn : In p n (F ++ [y]) y := In.row hP.pos hV hP.two (List.mem_append_right _ List.mem_cons_self)
  have lt : (spanL p n F).length < (spanL p n (F ++ [y])).length := by
    refine Nat.lt_of_not_le fun hle => h (in_of_len hP W.gw.vc hV hs hle y hyn)
  refine ⟨⟨hV, fun r hr => hs r (W.gw.sub r hr), fun B hB h1 h2 v hv => hv.mono hP.pos hB fun r hr => ?_, ?_⟩, ?_, fun e => by cases e⟩
  · rcases List.mem_append.mp hr with hr | hr
    · exact W.gw.min B hB h1 h2 r (In.row hP.pos W.gw.vc hP.two hr)
    · rw [List.mem_singleton.mp hr]
      exact h2 x (G0.min B hB h1 h2 x (In.row hP.pos G0.vc hP.two hx)) k hk y hy
  · rw [List.length_append]
    have := W.gw.len
    show F.length + 1 ≤ _
    omega
  · have := W.le
    show (spanL p n F0).length + 1 ≤ _
    cases g
    · have h2 : (spanL p n F0).length + 0 ≤ (spanL p n F).length := this
      omega
    · have h2 : (spanL p n F0).length + 1 ≤ (spanL p n F).length := this
      omega
theorem Wk.done (hP : PR p) {F0 F : List (List Int)} {Dn : List Int → Prop} (W : Wk p n T bl br rows F0 F false Dn) (h : ∀ x ∈ F0, ∀ k, k < n → ∀ y ∈ sided p n T bl br x k, Dn y) : IsClo p n T bl br rows F := by
  obtain ⟨e, h2⟩ := W.un rfl
  subst e
  exact ⟨W.gw.vc, W.gw.sub, clo_of hP W.gw.vc fun r hr k hk y hy => h2 y (h r hr k hk y hy), W.gw.min⟩
end
end Dl
set_option Elab.async false
set_option linter.all false
set_option maxRecDepth 100000
set_option maxHeartbeats 2000000
/-! SpcDef: what is told as a space, as rows; what is not. -/
namespace Dl
open PySem PySem.Spec PyProof.Rows L2
theorem isRw_vc {p : Int} {n : Nat} {v : List Int} (h : Vc p n v) : isRw p n (rw v) = true := by
  rw [show rw v = .tup (v.map D.int) from rfl, isRw_tup, List.length_map, decide_eq_true h.1, Bool.true_and, List.all_map]
  refine List.all_eq_true.mpr fun x hx => ?_
  have := h.2 x hx
  simp [itOk]
  omega
theorem okT_rw (v : List Int) : okT (rw v) ∧ ∀ es, rw v = .tup es → ∀ d ∈ es, okT d := ⟨by simp [okT, tyD], fun es e d hd => by
  cases e
  obtain ⟨x, _, rfl⟩ := List.mem_map.mp hd
  simp [okT, tyD]⟩
/-- told as an item: to two levels -/
def okT2 (x : D) : Prop := okT x ∧ ∀ es, x = .tup es → ∀ d ∈ es, okT d
/-- what is taken as rows: r tells them, or none -/
def Spn (A : Alg) (x : D) (r : Option (List (List Int))) : Prop :=
  (∃ k rows, x = seqD k (rws rows) ∧ Vcs A.p A.n rows ∧ rows.length ≤ 1000 ∧ r = some rows) ∨
  ((∃ nm : String, tyD x = some nm ∧ kitB nm "list" = some false ∧ kitB nm "tuple" = some false) ∧ r = none) ∨
  ∃ k es, x = seqD k es ∧ (∀ d ∈ es, okT2 d) ∧ (∃ d ∈ es, isRw A.p A.n d = false) ∧ r = none
/-- told: a space, or none -/
def Spc (A : Alg) (x : D) (b : Bool) : Prop :=
  (∃ rows, x = .tup (rws rows) ∧ Vcs A.p A.n rows ∧ rows.length ≤ 1000 ∧ b = decide (mRed A.p A.n rows = rows)) ∨
  ((okT x ∧ ∀ es, x ≠ .tup es) ∧ b = false) ∨
  ∃ es, x = .tup es ∧ (∀ d ∈ es, okT2 d) ∧ (∃ d ∈ es, isRw A.p A.n d = false) ∧ b = false
theorem eqv_rwsT (v w : List (List Int)) : PyData.eqv (py (.tup (rws v))) (py (.tup (rws w))) = decide (v = w) := eqv_inj (f := fun l => D.tup (rws l)) (fun a b h => by
  have h' : rws a = rws b := by injection h
  clear h
  induction a generalizing b with
  | nil => cases b with | nil => rfl | cons _ _ => cases h'
  | cons x a ih => cases b with
    | nil => cases h'
    | cons y b =>
      have e1 : rw x = rw y := by simpa [rws] using (List.cons.inj h').1
      have e2 := ih b (List.cons.inj h').2
      rw [rw_inj e1, e2]) (cln_tup (cln_map fun x _ => rw_cln x)) (cln_tup (cln_map fun x _ => rw_cln x)) (Pln.tup (n := 1) (Pln.map fun x _ => rw_pln x)).1
theorem rws_inj {a b : List (List Int)} (h : rws a = rws b) : a = b := by
  have : decide (a = b) = true := by
    rw [← eqv_rwsT, show D.tup (rws a) = .tup (rws b) by rw [h]]
    exact eqv_rfl (okD_pl (rws_okT _))
  exact of_decide_eq_true this
theorem rws_bad {p : Int} {n : Nat} {rows : List (List Int)} (hR : Vcs p n rows) (h : ∃ d ∈ rws rows, isRw p n d = false) : False := by
  obtain ⟨d, hd, e⟩ := h
  obtain ⟨r, hr, rfl⟩ := List.mem_map.mp hd
  rw [isRw_vc (hR r hr)] at e
  cases e
theorem spc_true {A : Alg} {rows : List (List Int)} (hP : PR A.p) (h : Spc A (.tup (rws rows)) true) : Vcs A.p A.n rows ∧ mRed A.p A.n rows = rows ∧ ∀ r ∈ rows, nz r ≠ [] := by
  rcases h with ⟨rows', e1, hR, _, e⟩ | ⟨_, e⟩ | ⟨_, _, _, _, e⟩
  · have e2 : rows = rows' := rws_inj (by injection e1)
    subst e2
    have hr := of_decide_eq_true e.symm
    refine ⟨hR, hr, fun r hrr => ?_⟩
    have hF := (red_form hP hR).1
    rw [hr] at hF
    obtain ⟨i, hi, e⟩ := hF.pvs hrr
    rw [← e]
    exact hF.ne i hi
  · cases e
  · cases e
theorem Spn.vcs {A : Alg} {x : D} {rows : List (List Int)} (h : Spn A x (some rows)) : Vcs A.p A.n rows := by
  rcases h with ⟨_, rows', _, h, _, e⟩ | ⟨_, e⟩ | ⟨_, _, _, _, _, e⟩
  · cases e; exact h
  · cases e
  · cases e
/-- a space: its own reduced table -/
structure Sp1 (A : Alg) (g : List (List Int)) : Prop where
  vc : Vcs A.p A.n g
  red : mRed A.p A.n g = g
theorem Sp1.form {A : Alg} {g : List (List Int)} (hA : A.Ok) (S : Sp1 A g) : InForm A.n g := by
  have := (red_form hA.1.pr S.vc).1
  rw [S.red] at this
  exact this
theorem Sp1.of {A : Alg} (hA : A.Ok) {rows : List (List Int)} (h : Vcs A.p A.n rows) : Sp1 A (mRed A.p A.n rows) := ⟨red_vcs hA.1.pr h, red_red hA.1.pr h⟩
theorem Sp1.spc {A : Alg} {g : List (List Int)} (hA : A.Ok) (S : Sp1 A g) : Spc A (.tup (rws g)) true := .inl ⟨g, rfl, S.vc, by have := form_n (S.form hA); have := hA.2.1; omega, (decide_eq_true S.red).symm⟩
theorem nz_zer (n : Nat) : nz (zer n) = [] := by
  cases e : nz (zer n) with
  | nil => rfl
  | cons a t =>
    have := (nz_mem (by rw [e]; exact List.mem_cons_self : a ∈ nz (zer n))).2
    exact absurd (cf_zer n a) this
/-! told as no space -/
theorem spc_flat {A : Alg} {x : D} (h : okT x) (hn : ∀ es, x ≠ .tup es) : Spc A x false := .inr (.inl ⟨⟨h, hn⟩, rfl⟩)
theorem spc_bad {A : Alg} {es : List D} (h : ∀ d ∈ es, okT2 d) (hb : ∃ d ∈ es, isRw A.p A.n d = false) : Spc A (.tup es) false := .inr (.inr ⟨es, rfl, h, hb, rfl⟩)
theorem spc_not {A : Alg} {g : List (List Int)} (hA : A.Ok) (h : Vcs A.p A.n g) (hl : g.length ≤ 1000) (hn : ¬ InForm A.n g) : Spc A (.tup (rws g)) false := .inl ⟨g, rfl, h, hl, (decide_eq_false fun e => hn (Sp1.form hA ⟨h, e⟩)).symm⟩
theorem okT_int (i : Int) : okT (.int i) := fun e => by cases e
theorem isRw_len {p : Int} {n : Nat} {es : List D} (h : es.length ≠ n) : isRw p n (.tup es) = false := by
  rw [isRw_tup, decide_eq_false h]
  rfl
theorem isRw_bad {p : Int} {n : Nat} {es : List D} {d : D} (h : itOk p d = false) : isRw p n (.tup (es ++ [d])) = false := by
  rw [isRw_tup, List.all_append, List.all_cons, h]
  simp
theorem okT2_tup {es : List D} (h : ∀ d ∈ es, okT d) : okT2 (.tup es) := ⟨fun e => (by cases e), fun fs e d hd => by cases e; exact h d hd⟩
theorem okT2_flat {x : D} (h : okT x) (hn : ∀ es, x ≠ .tup es) : okT2 x := ⟨h, fun es e => absurd e (hn es)⟩
theorem okT2_ints {es : List D} (h : ∀ d ∈ es, ∃ i, d = .int i) {d : D} (hd : okT d) : okT2 (.tup (es ++ [d])) := okT2_tup fun x hx => by
  rcases List.mem_append.mp hx with h1 | h1
  · obtain ⟨i, rfl⟩ := h x h1
    exact okT_int i
  · rw [List.mem_singleton.mp h1]; exact hd
theorem map_ints (v : List Int) : ∀ d ∈ v.map D.int, ∃ i, d = .int i := fun d hd => by
  obtain ⟨i, _, rfl⟩ := List.mem_map.mp hd
  exact ⟨i, rfl⟩
theorem ok4 (a b c d : Bool) : okD (.lst [.bl a, .bl b, .bl c, .bl d]) = true := by cases a <;> cases b <;> cases c <;> cases d <;> decide +kernel
theorem eq4 (a b c d : Bool) : PyData.eqv (py (.lst [.bl a, .bl b, .bl c, .bl d])) (py (.lst [.bl a, .bl b, .bl c, .bl d])) = true := eqv_rfl (okD_pl (ok4 a b c d))
theorem ev_noSeq {F : Fm} {ks : List Kd} {te : TE} {x : D} {nm : String} (h : Ev F ks te x) (h1 : tyD x = some nm) (h2 : kitB nm "list" = some false) (h3 : kitB nm "tuple" = some false) : Ev F ks (tCB (rIsiT F.K) (tCons te (tCons (tTup (tCons (tC (.ty "list")) (tCons (tC (.ty "tuple")) tNil))) tNil))) (.bl false) := ev_isiT2 h h1 h2 h3
theorem rws_getR {rows : List (List Int)} {i : Nat} {d : D} (h : (rws rows)[i]? = some d) : ∃ r, rows[i]? = some r ∧ r ∈ rows ∧ d = rw r := by
  rw [List.getElem?_map] at h
  cases e : rows[i]? with
  | none => rw [e] at h; cases h
  | some r =>
    rw [e] at h
    cases h
    exact ⟨r, rfl, List.mem_of_getElem? e, rfl⟩
theorem okT2_rw (v : List Int) : okT2 (rw v) := okT_rw v
end Dl
set_option Elab.async false
set_option linter.all false
set_option maxRecDepth 100000
set_option maxHeartbeats 2000000
/-! PwMath: powers of a space. -/
namespace Dl
open PySem L2
section
variable {p : Int} {n : Nat} {T : List (List (List Int))} {one : List Int} {S : List (List Int)}
def pw (p : Int) (n : Nat) (T : List (List (List Int))) (S : List (List Int)) : Nat → List (List Int)
  | 0 => S
  | j + 1 => mRed p n (prodL p n T (pw p n T S j) S)
theorem pw_vcs (hP : PR p) (hS : Vcs p n S) : ∀ j, Vcs p n (pw p n T S j)
  | 0 => hS
  | _ + 1 => red_vcs hP (prodL_vcs hP _ _)
theorem pw_red (hP : PR p) (hS : Vcs p n S) (hr : mRed p n S = S) : ∀ j, mRed p n (pw p n T S j) = pw p n T S j
  | 0 => hr
  | _ + 1 => red_red hP (prodL_vcs hP _ _)
theorem pw_succ_in (hP : PR p) (j : Nat) (v : List Int) : In p n (pw p n T S (j + 1)) v ↔ In p n (prodL p n T (pw p n T S j) S) v := red_in hP (prodL_vcs hP _ _) v
/-- brackets -/
theorem prod_ass (A : IsAlg p n T one) {X Y Z : List (List Int)} (hX : Vcs p n X) (hY : Vcs p n Y) (hZ : Vcs p n Z) (v : List Int) : In p n (prodL p n T (prodL p n T X Y) Z) v ↔ In p n (prodL p n T X (prodL p n T Y Z)) v := by
  have hP := A.pr
  constructor
  · refine fun h => prod_min hP (prodL_vcs hP _ _) (fun a ha z hz => ?_) h
    obtain ⟨x, hx, h2⟩ := List.mem_flatMap.mp ha
    obtain ⟨y, hy, rfl⟩ := List.mem_map.mp h2
    rw [A.ass _ _ _ (hX x hx) (hY y hy) (hZ z hz)]
    exact In.row hP.pos (prodL_vcs hP _ _) hP.two (prodL_mem hx (prodL_mem hy hz))
  · refine fun h => prod_min hP (prodL_vcs hP _ _) (fun x hx a ha => ?_) h
    obtain ⟨y, hy, h2⟩ := List.mem_flatMap.mp ha
    obtain ⟨z, hz, rfl⟩ := List.mem_map.mp h2
    rw [← A.ass _ _ _ (hX x hx) (hY y hy) (hZ z hz)]
    exact In.row hP.pos (prodL_vcs hP _ _) hP.two (prodL_mem (prodL_mem hx hy) hz)
/-- the same from the other side -/
theorem pw_comm (A : IsAlg p n T one) (hS : Vcs p n S) : ∀ (j : Nat) (v : List Int), In p n (prodL p n T S (pw p n T S j)) v ↔ In p n (prodL p n T (pw p n T S j) S) v
  | 0, v => Iff.rfl
  | j + 1, v => by
    have hP := A.pr
    have hj := pw_vcs (T := T) hP hS j
    have hV := prodL_vcs hP (n := n) (T := T) (pw p n T S j) S
    rw [prod_same hP hS (pw_vcs hP hS (j + 1)) hS hV (fun v => Iff.rfl) (pw_succ_in hP j) v, ← prod_ass A hS hj hS v, prod_same hP (prodL_vcs hP _ _) hS hV hS (pw_comm A hS j) (fun v => Iff.rfl) v]
    exact (prod_same hP (pw_vcs hP hS (j + 1)) hS hV hS (pw_succ_in hP j) (fun v => Iff.rfl) v).symm
theorem pw_back (A : IsAlg p n T one) (hS : Vcs p n S) (j : Nat) : mRed p n (prodL p n T S (pw p n T S j)) = pw p n T S (j + 1) :=
  (red_uni A.pr (prodL_vcs A.pr _ _) (prodL_vcs A.pr _ _) (pw_comm A hS j)).1
/-! nilpotent: not later than n -/
theorem vcs_nil : Vcs p n [] := fun v hv => nomatch hv
theorem in_nil {v : List Int} (h : In p n [] v) : v = zer n := by
  cases h with
  | zero => rfl
  | add a hw hr => exact nomatch hr
theorem red_empty (hP : PR p) {A : List (List Int)} (hA : Vcs p n A) : mRed p n A = [] ↔ ∀ v, In p n A v → v = zer n := by
  constructor
  · intro e v hv
    have := (red_in hP hA v).mpr hv
    rw [e] at this
    exact in_nil this
  · intro h
    have := (red_uni hP hA (fun v hv => nomatch hv : Vcs p n []) fun v => ⟨fun hv => by rw [h v hv]; exact .zero, fun hv => by rw [in_nil hv]; exact .zero⟩).1
    rw [this]
    exact (red_nil p n).1
theorem rank_lt (hP : PR p) {A B : List (List Int)} (hA : Vcs p n A) (hB : Vcs p n B) (h : ∀ v, In p n B v → In p n A v) (hn : ¬ ∀ v, In p n A v → In p n B v) : (mRed p n B).length < (mRed p n A).length := by
  refine Nat.lt_of_not_le fun hle => hn fun v hv => in_of_len hP hB hA h ?_ v hv
  rw [count_red hP hA, count_red hP hB]
  exact Nat.pow_le_pow_right (by have := hP.two; omega) hle
/-- from j on to m -/
def tl (p : Int) (n : Nat) (T : List (List (List Int))) (S : List (List Int)) : Nat → Nat → List (List Int)
  | _, 0 => []
  | j, k + 1 => pw p n T S j ++ tl p n T S (j + 1) k
theorem tl_vcs (hP : PR p) (hS : Vcs p n S) : ∀ k j, Vcs p n (tl p n T S j k)
  | 0, _ => fun v hv => nomatch hv
  | k + 1, j => fun v hv => by
    rcases List.mem_append.mp hv with h | h
    · exact pw_vcs hP hS j v h
    · exact tl_vcs hP hS k (j + 1) v h
/-- one factor more -/
theorem tl_step (hP : PR p) (hS : Vcs p n S) : ∀ (k j : Nat), (∀ v ∈ tl p n T S (j + 1) k, In p n (prodL p n T (tl p n T S j k) S) v) ∧ ∀ v ∈ prodL p n T (tl p n T S j k) S, In p n (tl p n T S (j + 1) k) v
  | 0, _ => ⟨(fun v hv => nomatch hv), (fun v hv => nomatch hv)⟩
  | k + 1, j => by
    obtain ⟨h1, h2⟩ := tl_step hP hS k (j + 1)
    have hV := tl_vcs hP (T := T) hS k (j + 1)
    have hV2 := tl_vcs hP (T := T) hS k (j + 2)
    have hpj := pw_vcs hP (T := T) hS j
    have hpj1 := pw_vcs hP (T := T) hS (j + 1)
    have hA : Vcs p n (tl p n T S (j + 1) (k + 1)) := tl_vcs hP hS (k + 1) (j + 1)
    have e : prodL p n T (tl p n T S j (k + 1)) S = prodL p n T (pw p n T S j) S ++ prodL p n T (tl p n T S (j + 1) k) S := by
      show List.flatMap _ (_ ++ _) = _
      rw [List.flatMap_append]
      rfl
    rw [e]
    have hE : Vcs p n (prodL p n T (pw p n T S j) S ++ prodL p n T (tl p n T S (j + 1) k) S) := fun v hv => by
      rcases List.mem_append.mp hv with h | h
      · exact prodL_vcs hP _ _ v h
      · exact prodL_vcs hP _ _ v h
    constructor
    · intro v hv
      rcases List.mem_append.mp hv with h | h
      · exact ((pw_succ_in hP j v).mp (In.row hP.pos hpj1 hP.two h)).sub fun r hr => List.mem_append_left _ hr
      · exact (h1 v h).sub fun r hr => List.mem_append_right _ hr
    · intro v hv
      rcases List.mem_append.mp hv with h | h
      · exact ((pw_succ_in hP j v).mpr (In.row hP.pos (prodL_vcs hP _ _) hP.two h)).sub fun r hr => List.mem_append_left _ hr
      · exact (h2 v h).sub fun r hr => List.mem_append_right _ hr
theorem pw_zero (hP : PR p) (hS : Vcs p n S) {j : Nat} (h : pw p n T S j = []) : pw p n T S (j + 1) = [] := by
  show mRed p n (prodL p n T (pw p n T S j) S) = []
  rw [h]
  exact (red_nil p n).1
/-- all of the powers from j on are within those from j + 1 on: then none is left -/
theorem tl_fall (hP : PR p) (hS : Vcs p n S) (hr : mRed p n S = S) {m : Nat} (hz : pw p n T S m = []) : ∀ k j, j + k = m → (∀ v ∈ tl p n T S j k, In p n (tl p n T S (j + 1) (k - 1)) v) → ∀ v ∈ tl p n T S j k, v = zer n
  | 0, _, _, _ => fun v hv => nomatch hv
  | k + 1, j, e, h => by
    have hV := tl_vcs hP (T := T) hS k (j + 1)
    have step : ∀ v ∈ tl p n T S (j + 1) k, In p n (tl p n T S (j + 2) (k - 1)) v := fun v hv => by
      cases k with
      | zero => exact nomatch hv
      | succ k =>
        have hV2 := tl_vcs hP (T := T) hS k (j + 2)
        have hVj := tl_vcs hP (T := T) hS (k + 1) j
        have hVz := tl_vcs hP (T := T) hS (k + 2) j
        have h1 := (tl_step hP (T := T) hS (k + 1) j).1 v hv
        -- the products of those from j on lie in the products of those from j + 1 on
        have h2 : In p n (prodL p n T (tl p n T S (j + 1) (k + 1)) S) v := prod_min hP (prodL_vcs hP _ _) (fun x hx s hs => prod_in hP hV hS (h x (by
          have : ∀ (a b : Nat), x ∈ tl p n T S b a → x ∈ tl p n T S b (a + 1) := fun a => by
            induction a with
            | zero => intro b hb; exact nomatch hb
            | succ a ih =>
              intro b hb
              rcases List.mem_append.mp hb with g | g
              · exact List.mem_append_left _ g
              · exact List.mem_append_right _ (ih (b + 1) g)
          exact this (k + 1) j hx)) (In.row hP.pos hS hP.two hs)) h1
        have h3 : In p n (tl p n T S (j + 2) (k + 1)) v := h2.mono hP.pos (tl_vcs hP hS (k + 1) (j + 2)) (tl_step hP (T := T) hS (k + 1) (j + 1)).2
        refine h3.mono hP.pos hV2 fun r hr => ?_
        have last : ∀ (a b : Nat), b + a = m → r ∈ tl p n T S b (a + 1) → r ∈ tl p n T S b a := fun a => by
          induction a with
          | zero =>
            intro b hb hr
            rcases List.mem_append.mp hr with g | g
            · have eb : b = m := by omega
              rw [eb, hz] at g
              exact nomatch g
            · exact nomatch g
          | succ a ih =>
            intro b hb hr
            rcases List.mem_append.mp hr with g | g
            · exact List.mem_append_left _ g
            · exact List.mem_append_right _ (ih (b + 1) (by omega) g)
        exact In.row hP.pos hV2 hP.two (last k (j + 2) (by omega) hr)
    have low := tl_fall hP hS hr hz k (j + 1) (by omega) step
    intro v hv
    have : In p n (tl p n T S (j + 1) k) v := h v hv
    have h0 : ∀ u, In p n (tl p n T S (j + 1) k) u → u = zer n := fun u hu => in_nil (hu.mono hP.pos vcs_nil fun r hr => by rw [low r hr]; exact .zero)
    exact h0 v this
theorem pw_last (hP : PR p) (hS : Vcs p n S) (hr : mRed p n S = S) (hz : pw p n T S (n + 1) = []) : pw p n T S n = [] := by
  by_cases hx : pw p n T S n = []
  · exact hx
  exfalso
  have key : ∀ k j, j + k = n + 1 → k ≤ (mRed p n (tl p n T S j k)).length := fun k => by
    induction k with
    | zero => intro j _; exact Nat.zero_le _
    | succ k ih =>
      intro j e
      have h1 := ih (j + 1) (by omega)
      have h2 := rank_lt hP (tl_vcs hP (T := T) hS (k + 1) j) (tl_vcs hP (T := T) hS k (j + 1)) (fun v hv => hv.sub fun r hr => List.mem_append_right _ hr) fun h => ?_
      · omega
      · have low := tl_fall hP hS hr hz (k + 1) j (by omega) fun v hv => h v (In.row hP.pos (tl_vcs hP hS (k + 1) j) hP.two hv)
        have mem : ∀ (a b : Nat), b + a = n → ∀ v ∈ pw p n T S n, v ∈ tl p n T S b (a + 1) := fun a => by
          induction a with
          | zero =>
            intro b hb v hv
            have eb : b = n := by omega
            rw [eb]
            exact List.mem_append_left _ hv
          | succ a ih =>
            intro b hb v hv
            exact List.mem_append_right _ (ih (b + 1) (by omega) v hv)
        refine hx ?_
        rw [← pw_red hP hS hr n]
        refine (red_empty hP (pw_vcs hP hS n)).mpr fun v hv => in_nil (hv.mono hP.pos vcs_nil fun r hr => by rw [low r (mem k j (by omega) r hr)]; exact .zero)
  have h1 := key (n + 1) 0 (by omega)
  have h2 := red_n hP (tl_vcs hP (T := T) hS (n + 1) 0)
  omega
/-- the least exponent, less one -/
def nilF (p : Int) (n : Nat) (T : List (List (List Int))) (S : List (List Int)) (m : Nat) : Option Nat := (List.range m).find? fun j => decide (pw p n T S j = [])
theorem nilF_none {m : Nat} : nilF p n T S m = none ↔ ∀ j, j < m → pw p n T S j ≠ [] := by
  unfold nilF
  rw [List.find?_eq_none]
  constructor
  · intro h j hj e
    exact h j (List.mem_range.mpr hj) (decide_eq_true e)
  · intro h j hj e
    exact h j (List.mem_range.mp hj) (of_decide_eq_true e)
theorem nilF_succ (m : Nat) : nilF p n T S (m + 1) = match nilF p n T S m with
    | some k => some k
    | none => if pw p n T S m = [] then some m else none := by
  unfold nilF
  rw [List.range_succ, List.find?_append]
  cases (List.range m).find? fun j => decide (pw p n T S j = []) with
  | some k => rfl
  | none =>
    by_cases e : pw p n T S m = []
    · simp [e]
    · simp [e]
theorem nilF_end (hP : PR p) (hS : Vcs p n S) (hr : mRed p n S = S) : nilF p n T S (n + 2) = nilF p n T S (n + 1) := by
  rw [nilF_succ]
  cases e : nilF p n T S (n + 1) with
  | some k => rfl
  | none =>
    have h := nilF_none.mp e n (by omega)
    show (if pw p n T S (n + 1) = [] then some (n + 1) else none) = none
    rw [if_neg fun z => h (pw_last hP hS hr z)]
def nilD (o : Option Nat) : D := match o with
  | some k => .int ((k : Int) + 1)
  | none => .non
end
theorem rs_dropR {F : Fm} {ks : List Kd} {E : Ends} {te : TE} {R : D → Prop} {u : TS} (h : EvR F ks te R) (c : (∃ d, R d) → Run F ks u E) : Run F ks (tSeq (tDrop te) u) E := run_dropR (E := { E with nx := u E }) h c
end Dl
set_option Elab.async false
set_option linter.all false
set_option maxRecDepth 100000
set_option maxHeartbeats 2000000
/-! AnnMath: kernels of linear maps, told by the columns of their tables; annihilators. -/
namespace Dl
open PySem PySem.Spec PyProof.Rows L2
section
variable {p : Int} {n : Nat} {T : List (List (List Int))} {one : List Int}
def cndL (tabs : List (List (List Int))) : List (List Int) := tabs.flatMap fun t => (List.range t.length).map fun a => t.map fun r => cf r a
theorem cndL_snoc (l : List (List (List Int))) (t : List (List Int)) : cndL (l ++ [t]) = cndL l ++ (List.range t.length).map fun a => t.map fun r => cf r a := by
  unfold cndL
  rw [List.flatMap_append]
  simp
theorem cndL_len {l : List (List (List Int))} {m : Nat} (h : ∀ t ∈ l, t.length ≤ m) : (cndL l).length ≤ l.length * m := by
  induction l with
  | nil => exact Nat.zero_le _
  | cons t l ih =>
    show (List.flatMap _ (t :: l)).length ≤ _
    rw [List.flatMap_cons, List.length_append, List.length_cons, Nat.succ_mul, List.length_map, List.length_range, Nat.add_comm]
    exact Nat.add_le_add (ih fun t ht => h t (List.mem_cons_of_mem _ ht)) (h t List.mem_cons_self)
theorem cndL_vcs (hP : PR p) {l : List (List (List Int))} (h : ∀ t ∈ l, Vcs p n t ∧ t.length = n) : Vcs p n (cndL l) := fun v hv => by
  obtain ⟨t, ht, h2⟩ := List.mem_flatMap.mp hv
  obtain ⟨a, ha, rfl⟩ := List.mem_map.mp h2
  obtain ⟨hV, hl⟩ := h t ht
  refine ⟨by rw [List.length_map, hl], fun x hx => ?_⟩
  obtain ⟨r, hr, rfl⟩ := List.mem_map.mp hx
  have hrv := hV r hr
  have ha' := List.mem_range.mp ha
  exact hrv.at (by omega)
/-- the rows of a linear map -/
def tabF (n : Nat) (f : List Int → List Int) : List (List Int) := (List.range n).map fun i => f (unitR n i)
theorem tabF_len (f : List Int → List Int) : (tabF n f).length = n := by unfold tabF; rw [List.length_map, List.length_range]
theorem tabF_vcs (hP : PR p) {f : List Int → List Int} (L : Lin p n n f) : Vcs p n (tabF n f) := fun v hv => by
  obtain ⟨i, hi, rfl⟩ := List.mem_map.mp hv
  exact L.vc _ (unitR_vc hP.two n i)
theorem lin_tot (hP : PR p) {f : List Int → List Int} (L : Lin p n n f) {v : List Int} (hv : Vc p n v) : mTot p n (tabF n f) v n = f v := by
  have hl := tabF_len (n := n) f
  have hV := tabF_vcs hP L
  have L1 := tot_lin hP hV
  rw [hl] at L1
  refine lin_ext hP L1 L (fun i hi => ?_) hv
  have := tot_unit hP hV (i := i) (by omega)
  rw [hl] at this
  rw [this]
  exact range_getD _ _ hi
theorem cnd_ker (hP : PR p) {S : List (List Int)} {f : List Int → List Int → List Int} (L : ∀ u ∈ S, Lin p n n (f u)) {v : List Int} : InKer p n (cndL (S.map fun u => tabF n (f u))) v ↔ Vc p n v ∧ ∀ u ∈ S, f u v = zer n := by
  refine and_congr_right fun hv => ?_
  have key : ∀ u ∈ S, (f u v = zer n ↔ ∀ r ∈ (List.range n).map fun a => (tabF n (f u)).map fun r => cf r a, mDot p r v = 0) := fun u hu => by
    have hl := tabF_len (n := n) (f u)
    have h := tot_ker hP.pos (tabF_vcs hP (L u hu)) (w := v) (by rw [hl]; exact hv)
    rw [hl, lin_tot hP (L u hu) hv] at h
    exact h.trans ⟨fun h => h.2, fun h => ⟨hv, h⟩⟩
  constructor
  · intro h u hu
    refine (key u hu).mpr fun r hr => h r (List.mem_flatMap.mpr ⟨_, List.mem_map.mpr ⟨u, hu, rfl⟩, ?_⟩)
    rw [tabF_len]
    exact hr
  · intro h r hr
    obtain ⟨t, ht, h2⟩ := List.mem_flatMap.mp hr
    obtain ⟨u, hu, rfl⟩ := List.mem_map.mp ht
    rw [tabF_len] at h2
    exact (key u hu).mp (h u hu) r h2
theorem ker_cnd (hP : PR p) {S : List (List Int)} {f : List Int → List Int → List Int} (L : ∀ u ∈ S, Lin p n n (f u)) (v : List Int) : In p n (mKer p n (cndL (S.map fun u => tabF n (f u)))) v ↔ Vc p n v ∧ ∀ u ∈ S, f u v = zer n :=
  (ker_in hP (cndL_vcs hP fun t ht => by
    obtain ⟨u, hu, rfl⟩ := List.mem_map.mp ht
    exact ⟨tabF_vcs hP (L u hu), tabF_len _⟩) v).trans (cnd_ker hP L)
/-! annihilators -/
def annL (p : Int) (n : Nat) (T : List (List (List Int))) (S : List (List Int)) : List (List Int) := mKer p n (cndL (S.map fun u => tabF n fun x => mMul p n T x u))
def annR (p : Int) (n : Nat) (T : List (List (List Int))) (S : List (List Int)) : List (List Int) := mKer p n (cndL (S.map fun u => tabF n fun x => mMul p n T u x))
theorem annL_in (hP : PR p) {S : List (List Int)} (v : List Int) : In p n (annL p n T S) v ↔ Vc p n v ∧ ∀ u ∈ S, mMul p n T v u = zer n := (ker_cnd hP (f := fun u x => mMul p n T x u) fun u _ => mul_linl hP u) v
theorem annR_in (hP : PR p) {S : List (List Int)} (v : List Int) : In p n (annR p n T S) v ↔ Vc p n v ∧ ∀ u ∈ S, mMul p n T u v = zer n := (ker_cnd hP (f := fun u x => mMul p n T u x) fun u _ => mul_linr hP u) v
theorem ann_vcs (hP : PR p) {S : List (List Int)} : Vcs p n (annL p n T S) ∧ Vcs p n (annR p n T S) :=
  ⟨ker_vcs hP (cndL_vcs hP fun t ht => by
    obtain ⟨u, hu, rfl⟩ := List.mem_map.mp ht
    exact ⟨tabF_vcs hP (mul_linl hP u), tabF_len _⟩), ker_vcs hP (cndL_vcs hP fun t ht => by
    obtain ⟨u, hu, rfl⟩ := List.mem_map.mp ht
    exact ⟨tabF_vcs hP (mul_linr hP u), tabF_len _⟩)⟩
theorem ann_red (hP : PR p) {S : List (List Int)} : mRed p n (annL p n T S) = annL p n T S ∧ mRed p n (annR p n T S) = annR p n T S :=
  ⟨red_red hP (kRows_vcs hP (red_form hP (cndL_vcs hP fun t ht => by
    obtain ⟨u, hu, rfl⟩ := List.mem_map.mp ht
    exact ⟨tabF_vcs hP (mul_linl hP u), tabF_len _⟩)).1), red_red hP (kRows_vcs hP (red_form hP (cndL_vcs hP fun t ht => by
    obtain ⟨u, hu, rfl⟩ := List.mem_map.mp ht
    exact ⟨tabF_vcs hP (mul_linr hP u), tabF_len _⟩)).1)⟩
/-- a linear map that is 0 at the rows is 0 at their sums -/
theorem lin_none (hP : PR p) {f : List Int → List Int} (L : Lin p n n f) {S : List (List Int)} (hS : Vcs p n S) (h : ∀ u ∈ S, f u = zer n) {v : List Int} (hv : In p n S v) : f v = zer n := in_nil (lin_in hP L hS vcs_nil (fun r hr => by rw [h r hr]; exact .zero) hv)
theorem annL_all (hP : PR p) {S : List (List Int)} (hS : Vcs p n S) {v u : List Int} (h : In p n (annL p n T S) v) (hu : In p n S u) : mMul p n T v u = zer n := lin_none hP (mul_linr hP v) hS ((annL_in hP v).mp h).2 hu
theorem annR_all (hP : PR p) {S : List (List Int)} (hS : Vcs p n S) {v u : List Int} (h : In p n (annR p n T S) v) (hu : In p n S u) : mMul p n T u v = zer n := lin_none hP (mul_linl hP v) hS ((annR_in hP v).mp h).2 hu
theorem zmul_l (hP : PR p) (y : List Int) : mMul p n T (zer n) y = zer n := (mul_linl hP y).zer hP
theorem zmul_r (hP : PR p) (x : List Int) : mMul p n T x (zer n) = zer n := (mul_linr hP x).zer hP
/-- sides of the left annihilator -/
theorem annL_clo (A : IsAlg p n T one) {S : List (List Int)} (hS : Vcs p n S) {br : Bool} (h : br = true → Clo p n T true false S) : Clo p n T true br (annL p n T S) := fun v hv k hk y hy => by
  have hP := A.pr
  have hvv := ((annL_in hP v).mp hv).1
  have hk2 := unitR_vc hP.two n k
  rcases mem_sided.mp hy with ⟨_, rfl⟩ | ⟨e, rfl⟩
  · refine (annL_in hP _).mpr ⟨mul_vc hP.pos, fun u hu => ?_⟩
    rw [A.ass _ _ _ hk2 hvv (hS u hu), ((annL_in hP v).mp hv).2 u hu, zmul_r hP]
  · refine (annL_in hP _).mpr ⟨mul_vc hP.pos, fun u hu => ?_⟩
    rw [A.ass _ _ _ hvv hk2 (hS u hu)]
    exact annL_all hP hS hv (h e u (In.row hP.pos hS hP.two hu) k hk _ (mem_sided.mpr (.inl ⟨rfl, rfl⟩)))
theorem annR_clo (A : IsAlg p n T one) {S : List (List Int)} (hS : Vcs p n S) {bl : Bool} (h : bl = true → Clo p n T false true S) : Clo p n T bl true (annR p n T S) := fun v hv k hk y hy => by
  have hP := A.pr
  have hvv := ((annR_in hP v).mp hv).1
  have hk2 := unitR_vc hP.two n k
  rcases mem_sided.mp hy with ⟨e, rfl⟩ | ⟨_, rfl⟩
  · refine (annR_in hP _).mpr ⟨mul_vc hP.pos, fun u hu => ?_⟩
    rw [← A.ass _ _ _ (hS u hu) hk2 hvv]
    exact annR_all hP hS hv (h e u (In.row hP.pos hS hP.two hu) k hk _ (mem_sided.mpr (.inr ⟨rfl, rfl⟩)))
  · refine (annR_in hP _).mpr ⟨mul_vc hP.pos, fun u hu => ?_⟩
    rw [← A.ass _ _ _ (hS u hu) hvv hk2, ((annR_in hP v).mp hv).2 u hu, zmul_l hP]
/-- three times is once -/
theorem ann_LRL (A : IsAlg p n T one) {S : List (List Int)} (hS : Vcs p n S) : annL p n T (annR p n T (annL p n T S)) = annL p n T S := by
  have hP := A.pr
  have h := (red_uni hP (n := n) (ann_vcs hP (T := T) (S := annR p n T (annL p n T S))).1 (ann_vcs hP (T := T) (S := S)).1 fun v => ⟨fun hv => ?_, fun hv => ?_⟩).1
  · rw [(ann_red hP).1, (ann_red hP).1] at h
    exact h
  · refine (annL_in hP v).mpr ⟨((annL_in hP v).mp hv).1, fun u hu => ?_⟩
    refine annL_all hP (ann_vcs hP).2 hv ((annR_in hP u).mpr ⟨hS u hu, fun w hw => ?_⟩)
    exact ((annL_in hP w).mp (In.row hP.pos (ann_vcs hP).1 hP.two hw)).2 u hu
  · refine (annL_in hP v).mpr ⟨((annL_in hP v).mp hv).1, fun w hw => ?_⟩
    exact annR_all hP (ann_vcs hP).1 (In.row hP.pos (ann_vcs hP).2 hP.two hw) hv
theorem ann_RLR (A : IsAlg p n T one) {S : List (List Int)} (hS : Vcs p n S) : annR p n T (annL p n T (annR p n T S)) = annR p n T S := by
  have hP := A.pr
  have h := (red_uni hP (n := n) (ann_vcs hP (T := T) (S := annL p n T (annR p n T S))).2 (ann_vcs hP (T := T) (S := S)).2 fun v => ⟨fun hv => ?_, fun hv => ?_⟩).1
  · rw [(ann_red hP).2, (ann_red hP).2] at h
    exact h
  · refine (annR_in hP v).mpr ⟨((annR_in hP v).mp hv).1, fun u hu => ?_⟩
    refine annR_all hP (ann_vcs hP).1 hv ((annL_in hP u).mpr ⟨hS u hu, fun w hw => ?_⟩)
    exact ((annR_in hP w).mp (In.row hP.pos (ann_vcs hP).2 hP.two hw)).2 u hu
  · refine (annR_in hP v).mpr ⟨((annR_in hP v).mp hv).1, fun w hw => ?_⟩
    exact annL_all hP (ann_vcs hP).2 (In.row hP.pos (ann_vcs hP).1 hP.two hw) hv
end
/-! rules -/
theorem cr_allK {X : Cx} (K : PySem.W.Frag) (hc : X.calm = true) (hK : X.K = K := by rfl) : CallR X (.builtin "all") (L2.rAll K) := by subst hK; exact cr_all hc
section
variable {F : Fm} {ks : List Kd} {E : Ends}
theorem Ats.bls {K : PySem.W.Frag} {H : Hp} : ∀ {bs : List Bool} {vs : List V}, Ats K H vs (bs.map D.bl) → vs = bs.map V.bl
  | [], _, .nil => rfl
  | b :: bs, _, .cons h t => by
    cases h
    rw [Ats.bls t]
    rfl
theorem cav_all {bs : List Bool} : CaV F ks (L2.rAll F.K) [.lst (bs.map D.bl)] (fun d => d = .bl (bs.all id)) := fun M σ H o vs a Q q => by
  cases a with
  | cons a1 a2 =>
    cases a2
    cases a1 with
    | lst hl hs =>
      have e := hs.bls
      subst e
      exact ⟨_, bs, rfl, .inl (.inl (hid_same _ _ hl)), q _ _ H o .refl (.bl _) rfl⟩
theorem rs_joinP {α : Type} {tt : TT} {t u : TS} {b : Bool} (Kf : α → List Kd) (P : α → Prop) (h : EvT F ks tt b) (h0 : b = false → ∃ a, P a ∧ KsLe ks (Kf a)) (h1 : b = true → ∀ N : Sg → Hp → Prop, (∀ a, P a → Cont F (Kf a) N) → Run F ks t { E with nx := N }) (c : ∀ a, P a → Run F (Kf a) u E) : Run F ks (tSeq (tIfS tt t tNext) u) E :=
  rs_if h (fun e => h1 e (u E) fun a pa => c a pa) fun e => by
    obtain ⟨a, pa, w⟩ := h0 e
    exact rs_weak (c a pa) w
end
end Dl
set_option Elab.async false
set_option linter.all false
set_option maxRecDepth 100000
set_option maxHeartbeats 2000000
/-! SubMath: centralizers, commutators, subalgebras. -/
namespace Dl
open PySem L2
section
variable {p : Int} {n : Nat} {T : List (List (List Int))} {one : List Int}
def mSub (p : Int) (v w : List Int) : List Int := List.zipWith (fun a b => (a - b) % p) v w
theorem sub_eq (p : Int) (c : Int) (hc : (c + 1) % p = 0) : ∀ v w : List Int, mSub p v w = mAdd p v (mScl p c w)
  | [], _ => by unfold mSub mAdd; rw [List.zipWith_nil_left, List.zipWith_nil_left]
  | _ :: _, [] => rfl
  | a :: v, b :: w => by
    have ih := sub_eq p c hc v w
    show (a - b) % p :: mSub p v w = (a + b * c % p) % p :: mAdd p v (mScl p c w)
    rw [ih, Int.add_emod_emod]
    congr 1
    refine Int.emod_eq_emod_iff_emod_sub_eq_zero.mpr ?_
    have e : a - b - (a + b * c) = (c + 1) * (-b) := by grind
    rw [e, Int.mul_emod, hc, Int.zero_mul, Int.zero_emod]
theorem sub_vc (hP : PR p) {v w : List Int} (hv : Vc p n v) (hw : Vc p n w) : Vc p n (mSub p v w) := by
  rw [sub_eq p (-1) (by simp)]
  exact hv.add' hP.pos (hw.scl' hP.pos)
theorem sub_zero (hP : PR p) {v w : List Int} (hv : Vc p n v) (hw : Vc p n w) : mSub p v w = zer n ↔ v = w := by
  have hc : ∀ k, cf (mSub p v w) k = (cf v k - cf w k) % p := fun k => by
    rw [sub_eq p (-1) (by simp), cf_add (by rw [scl_len, hv.1, hw.1]), cf_scl, Int.add_emod_emod]
    congr 1
    omega
  constructor
  · intro h
    refine vext hP.pos hv hw fun k => ?_
    have := hc k
    rw [h, cf_zer] at this
    exact Int.emod_eq_emod_iff_emod_sub_eq_zero.mpr this.symm
  · rintro rfl
    refine vext hP.pos (sub_vc hP hv hv) (Vc.zer hP.pos) fun k => ?_
    rw [hc k, cf_zer, Int.sub_self, Int.zero_emod, Int.zero_emod]
/-- u v - v u, by v; by u -/
def cmm (p : Int) (n : Nat) (T : List (List (List Int))) (u v : List Int) : List Int := mSub p (mMul p n T u v) (mMul p n T v u)
theorem Lin.sum (hP : PR p) {f g : List Int → List Int} (L : Lin p n n f) (L' : Lin p n n g) (c : Int) : Lin p n n (fun x => mAdd p (f x) (mScl p c (g x))) where
  vc := fun x hx => (L.vc x hx).add' hP.pos ((L'.vc x hx).scl' hP.pos)
  add := fun x y hx hy => by
    have a1 := L.vc x hx
    have a2 := L.vc y hy
    have b1 := L'.vc x hx
    have b2 := L'.vc y hy
    rw [L.add x y hx hy, L'.add x y hx hy]
    refine vext hP.pos ((a1.add' hP.pos a2).add' hP.pos ((b1.add' hP.pos b2).scl' hP.pos)) ((a1.add' hP.pos (b1.scl' hP.pos)).add' hP.pos (a2.add' hP.pos (b2.scl' hP.pos))) fun k => ?_
    rw [cf_add (by rw [scl_len, (a1.add' hP.pos a2).1, (b1.add' hP.pos b2).1]), cf_add (by rw [a1.1, a2.1]), cf_scl, cf_add (by rw [b1.1, b2.1]), cf_add (by rw [(a1.add' hP.pos (b1.scl' hP.pos)).1, (a2.add' hP.pos (b2.scl' hP.pos)).1]), cf_add (by rw [scl_len, a1.1, b1.1]), cf_add (by rw [scl_len, a2.1, b2.1]), cf_scl, cf_scl]
    simp only [Int.add_emod_emod, Int.emod_add_emod, em_l]
    congr 1
    grind
  scl := fun a x hx => by
    have a1 := L.vc x hx
    have b1 := L'.vc x hx
    rw [L.scl a x hx, L'.scl a x hx]
    refine vext hP.pos ((a1.scl' hP.pos).add' hP.pos ((b1.scl' hP.pos).scl' hP.pos)) ((a1.add' hP.pos (b1.scl' hP.pos)).scl' hP.pos) fun k => ?_
    rw [cf_add (by rw [scl_len, scl_len, scl_len, a1.1, b1.1]), cf_scl, cf_scl, cf_scl, cf_scl, cf_add (by rw [scl_len, a1.1, b1.1]), cf_scl]
    simp only [Int.add_emod_emod, Int.emod_add_emod, em_l]
    congr 1
    grind
theorem cmm_lin (hP : PR p) (u : List Int) : Lin p n n (cmm p n T u) := by
  have h := Lin.sum hP (n := n) (mul_linr hP (T := T) u) (mul_linl hP (T := T) u) (-1)
  have e : (fun x => mAdd p (mMul p n T u x) (mScl p (-1) (mMul p n T x u))) = cmm p n T u := by
    funext x
    unfold cmm
    rw [sub_eq p (-1) (by simp)]
  rw [e] at h
  exact h
theorem cmm_linu (hP : PR p) (v : List Int) : Lin p n n (fun u => cmm p n T u v) := by
  have h := Lin.sum hP (n := n) (mul_linl hP (T := T) v) (mul_linr hP (T := T) v) (-1)
  have e : (fun x => mAdd p (mMul p n T x v) (mScl p (-1) (mMul p n T v x))) = fun u => cmm p n T u v := by
    funext x
    unfold cmm
    rw [sub_eq p (-1) (by simp)]
  rw [e] at h
  exact h
theorem cmm_zero (hP : PR p) {u v : List Int} : cmm p n T u v = zer n ↔ mMul p n T u v = mMul p n T v u := sub_zero hP (mul_vc hP.pos) (mul_vc hP.pos)
/-- what commutes with the rows -/
def cen (p : Int) (n : Nat) (T : List (List (List Int))) (S : List (List Int)) : List (List Int) := mKer p n (cndL (S.map fun u => tabF n (cmm p n T u)))
theorem cen_tabs (hP : PR p) {S : List (List Int)} : ∀ t ∈ S.map fun u => tabF n (cmm p n T u), Vcs p n t ∧ t.length = n := fun t ht => by
  obtain ⟨u, hu, rfl⟩ := List.mem_map.mp ht
  exact ⟨tabF_vcs hP (cmm_lin hP u), tabF_len _⟩
theorem cen_vcs (hP : PR p) {S : List (List Int)} : Vcs p n (cen p n T S) := ker_vcs hP (cndL_vcs hP (cen_tabs hP))
theorem cen_form (hP : PR p) {S : List (List Int)} : InForm n (cen p n T S) := ker_form hP (cndL_vcs hP (cen_tabs hP))
theorem cen_in (hP : PR p) {S : List (List Int)} (v : List Int) : In p n (cen p n T S) v ↔ Vc p n v ∧ ∀ u ∈ S, mMul p n T v u = mMul p n T u v := by
  refine (ker_cnd hP (f := cmm p n T) (fun u _ => cmm_lin hP u) v).trans (and_congr_right fun hv => ⟨fun h u hu => ((cmm_zero hP).mp (h u hu)).symm, fun h u hu => (cmm_zero hP).mpr (h u hu).symm⟩)
theorem comm_red (hP : PR p) {R : List (List Int)} (hR : Vcs p n R) {v : List Int} : (∀ u ∈ mRed p n R, mMul p n T v u = mMul p n T u v) ↔ ∀ u ∈ R, mMul p n T v u = mMul p n T u v := by
  have hV := red_vcs hP hR
  constructor
  · intro h u hu
    exact ((cmm_zero hP).mp (lin_none hP (cmm_linu hP (T := T) v) hV (fun r hr => (cmm_zero hP).mpr (h r hr).symm) ((red_in hP hR u).mpr (In.row hP.pos hR hP.two hu)))).symm
  · intro h u hu
    exact ((cmm_zero hP).mp (lin_none hP (cmm_linu hP (T := T) v) hR (fun r hr => (cmm_zero hP).mpr (h r hr).symm) ((red_in hP hR u).mp (In.row hP.pos hV hP.two hu)))).symm
theorem cen_span (hP : PR p) {R : List (List Int)} (hR : Vcs p n R) : ((mAll p n).filter fun x => R.all fun u => decide (mMul p n T x u = mMul p n T u x)) = mSpan p n (cen p n T (mRed p n R)) := (mSpan_filter hP (cen_vcs hP) fun v hv => by
  rw [List.all_eq_true, cen_in hP, comm_red hP hR]
  exact ⟨fun h => ⟨hv, fun u hu => of_decide_eq_true (h u hu)⟩, fun h u hu => decide_eq_true (h.2 u hu)⟩).symm
/-- the commutators of the basis -/
def comL (p : Int) (n : Nat) (T : List (List (List Int))) (X Y : List (List Int)) : List (List Int) := X.flatMap fun x => Y.map fun y => cmm p n T x y
theorem comL_vcs (hP : PR p) (X Y : List (List Int)) : Vcs p n (comL p n T X Y) := fun v hv => by
  obtain ⟨x, _, h⟩ := List.mem_flatMap.mp hv
  obtain ⟨y, _, rfl⟩ := List.mem_map.mp h
  exact sub_vc hP (mul_vc hP.pos) (mul_vc hP.pos)
theorem comL_len (X Y : List (List Int)) : (comL p n T X Y).length = X.length * Y.length := flatMap_len _ _ (fun x => by rw [List.length_map]) X
theorem comL_snoc (X Y : List (List Int)) (x : List Int) : comL p n T (X ++ [x]) Y = comL p n T X Y ++ Y.map fun y => cmm p n T x y := by
  unfold comL
  rw [List.flatMap_append]
  simp
theorem span_one (hP : PR p) {R : List (List Int)} (hR : Vcs p n R) : (mSpan p n R).length = 1 ↔ (mRed p n R).length = 0 := by
  rw [mSpan_len, count_red hP hR]
  constructor
  · intro h
    refine pow_inj hP (b := 0) ?_
    rw [h]
    rfl
  · intro h
    rw [h]
    rfl
/-! subalgebras -/
def MClo (p : Int) (n : Nat) (T : List (List (List Int))) (B : List (List Int)) : Prop := ∀ v w, In p n B v → In p n B w → In p n B (mMul p n T v w)
theorem mclo_of (hP : PR p) {B : List (List Int)} (hB : Vcs p n B) (h : ∀ x ∈ B, ∀ y ∈ B, In p n B (mMul p n T x y)) : MClo p n T B := fun v w hv hw => prod_min hP hB h (prod_in hP hB hB hv hw)
structure IsSub (p : Int) (n : Nat) (T : List (List (List Int))) (rows F : List (List Int)) : Prop where
  vc : Vcs p n F
  sub : ∀ r ∈ rows, In p n F r
  cl : MClo p n T F
  min : ∀ B, Vcs p n B → (∀ r ∈ rows, In p n B r) → MClo p n T B → ∀ v, In p n F v → In p n B v
theorem IsSub.uni {rows F G : List (List Int)} (a : IsSub p n T rows F) (b : IsSub p n T rows G) (v : List Int) : In p n F v ↔ In p n G v := ⟨a.min G b.vc b.sub b.cl v, b.min F a.vc a.sub a.cl v⟩
structure Gm (p : Int) (n : Nat) (T : List (List (List Int))) (rows F : List (List Int)) : Prop where
  vc : Vcs p n F
  sub : ∀ r ∈ rows, In p n F r
  min : ∀ B, Vcs p n B → (∀ r ∈ rows, In p n B r) → MClo p n T B → ∀ v, In p n F v → In p n B v
  len : F.length ≤ rows.length + (spanL p n F).length
structure Wm (p : Int) (n : Nat) (T : List (List (List Int))) (rows F0 F : List (List Int)) (g : Bool) (Dn : List Int → Prop) : Prop where
  gw : Gm p n T rows F
  inc : ∀ v ∈ F0, In p n F v
  le : (spanL p n F0).length + (if g then 1 else 0) ≤ (spanL p n F).length
  un : g = false → F = F0 ∧ ∀ y, Dn y → In p n F0 y
variable {rows : List (List Int)}
theorem Gm.start (hP : PR p) (hR : Vcs p n rows) : Gm p n T rows rows := ⟨hR, fun r hr => In.row hP.pos hR hP.two hr, fun B hB h _ v hv => hv.mono hP.pos hB h, Nat.le_add_right _ _⟩
theorem Wm.start (hP : PR p) {F0 : List (List Int)} (G : Gm p n T rows F0) : Wm p n T rows F0 F0 false (fun _ => False) := ⟨G, fun v hv => In.row hP.pos G.vc hP.two hv, Nat.le_refl _, fun _ => ⟨rfl, fun _ h => h.elim⟩⟩
theorem Wm.imp {F0 F : List (List Int)} {g : Bool} {Dn Dn' : List Int → Prop} (W : Wm p n T rows F0 F g Dn) (h : g = false → ∀ y, Dn' y → Dn y) : Wm p n T rows F0 F g Dn' := ⟨W.gw, W.inc, W.le, fun e => ⟨(W.un e).1, fun y hy => (W.un e).2 y (h e y hy)⟩⟩
theorem Wm.old {F0 F : List (List Int)} {g : Bool} {Dn : List Int → Prop} (W : Wm p n T rows F0 F g Dn) {y : List Int} (h : In p n F y) : Wm p n T rows F0 F g (fun z => Dn z ∨ z = y) := ⟨W.gw, W.inc, W.le, fun e => ⟨(W.un e).1, fun z hz => by
  rcases hz with hz | rfl
  · exact (W.un e).2 z hz
  · rw [← (W.un e).1]; exact h⟩⟩
theorem Wm.new (hP : PR p) {F0 F : List (List Int)} {g : Bool} {Dn Dn' : List Int → Prop} (W : Wm p n T rows F0 F g Dn) {x y : List Int} (hx : In p n F x) (hy : In p n F y) (h : ¬ In p n F (mMul p n T x y)) : Wm p n T rows F0 (F ++ [mMul p n T x y]) true Dn' := by
  have hyv : Vc p n (mMul p n T x y) := mul_vc hP.pos
  generalize hz : mMul p n T x y = z at *
  have hV : Vcs p n (F ++ [z]) := fun v hv => by
    rcases List.mem_append.mp hv with hv | hv
    · exact W.gw.vc v hv
    · rw [List.mem_singleton.mp hv]; exact hyv
  have hs : ∀ v, In p n F v → In p n (F ++ [z]) v := fun v hv => hv.sub fun r hr => List.mem_append_left _ hr
  have hyn : In p n (F ++ [z]) z := In.row hP.pos hV hP.two (List.mem_append_right _ List.mem_cons_self)
  have lt : (spanL p n F).length < (spanL p n (F ++ [z])).length := by
    refine Nat.lt_of_not_le fun hle => h (in_of_len hP W.gw.vc hV hs hle z hyn)
  refine ⟨⟨hV, fun r hr => hs r (W.gw.sub r hr), fun B hB h1 h2 v hv => hv.mono hP.pos hB fun r hr => ?_, ?_⟩, fun v hv => hs v (W.inc v hv), ?_, fun e => by cases e⟩
  · rcases List.mem_append.mp hr with hr | hr
    · exact W.gw.min B hB h1 h2 r (In.row hP.pos W.gw.vc hP.two hr)
    · rw [List.mem_singleton.mp hr, ← hz]
      exact h2 x y (W.gw.min B hB h1 h2 x hx) (W.gw.min B hB h1 h2 y hy)
  · rw [List.length_append]
    have := W.gw.len
    show F.length + 1 ≤ _
    omega
  · have := W.le
    show (spanL p n F0).length + 1 ≤ _
    cases g
    · have h2 : (spanL p n F0).length + 0 ≤ (spanL p n F).length := this
      omega
    · have h2 : (spanL p n F0).length + 1 ≤ (spanL p n F).length := this
      omega
theorem Wm.done (hP : PR p) {F0 F : List (List Int)} {Dn : List Int → Prop} (W : Wm p n T rows F0 F false Dn) (h : ∀ x ∈ F0, ∀ y ∈ F0, Dn (mMul p n T x y)) : IsSub p n T rows F := by
  obtain ⟨e, h2⟩ := W.un rfl
  subst e
  exact ⟨W.gw.vc, W.gw.sub, mclo_of hP W.gw.vc fun x hx y hy => h2 _ (h x hx y hy), W.gw.min⟩
/-- the code's way: one factor more at each turn -/
structure Ga (p : Int) (n : Nat) (T : List (List (List Int))) (one : List Int) (W G : List (List Int)) : Prop where
  vc : Vcs p n G
  red : mRed p n G = G
  un : In p n G one
  min : ∀ B, Vcs p n B → In p n B one → (∀ r ∈ W, In p n B r) → MClo p n T B → ∀ v, In p n G v → In p n B v
  act : ∀ C, Vcs p n C → (∀ v, In p n C v → ∀ w ∈ W, In p n C (mMul p n T v w)) → ∀ v, In p n C v → ∀ u, In p n G u → In p n C (mMul p n T v u)
def gStep (p : Int) (n : Nat) (T : List (List (List Int))) (W G : List (List Int)) : List (List Int) := G ++ mRed p n (prodL p n T G W)
theorem gStep_vcs (hP : PR p) {W G : List (List Int)} (hG : Vcs p n G) : Vcs p n (gStep p n T W G) := fun v hv => by
  rcases List.mem_append.mp hv with h | h
  · exact hG v h
  · exact red_vcs hP (prodL_vcs hP _ _) v h
theorem Ga.start (A : IsAlg p n T one) {W : List (List Int)} : Ga p n T one W (mRed p n [one]) := by
  have hP := A.pr
  have h1 : Vcs p n [one] := fun v hv => by rw [List.mem_singleton.mp hv]; exact A.ov
  refine ⟨red_vcs hP h1, red_red hP h1, (red_in hP h1 one).mpr (In.row hP.pos h1 hP.two List.mem_cons_self), fun B hB ho _ _ v hv => ((red_in hP h1 v).mp hv).mono hP.pos hB fun r hr => by rw [List.mem_singleton.mp hr]; exact ho, fun C hC _ v hv u hu => ?_⟩
  refine lin_in hP (mul_linr hP (T := T) v) h1 hC (fun r hr => ?_) ((red_in hP h1 u).mp hu)
  rw [List.mem_singleton.mp hr, A.oner v (hv.vc hP.pos hC)]
  exact hv
theorem Ga.step (A : IsAlg p n T one) {W G : List (List Int)} (hW : Vcs p n W) (a : Ga p n T one W G) : Ga p n T one W (mRed p n (gStep p n T W G)) := by
  have hP := A.pr
  have hS := gStep_vcs hP (T := T) (W := W) a.vc
  have hi := red_in hP hS
  refine ⟨red_vcs hP hS, red_red hP hS, (hi one).mpr (a.un.sub fun r hr => List.mem_append_left _ hr), fun B hB ho hr hm v hv => ((hi v).mp hv).mono hP.pos hB fun r h => ?_, fun C hC hc v hv u hu => ?_⟩
  · rcases List.mem_append.mp h with h | h
    · exact a.min B hB ho hr hm r (In.row hP.pos a.vc hP.two h)
    · refine prod_min hP hB (fun x hx y hy => hm x y (a.min B hB ho hr hm x (In.row hP.pos a.vc hP.two hx)) (hr y hy)) ((red_in hP (prodL_vcs hP _ _) r).mp (In.row hP.pos (red_vcs hP (prodL_vcs hP _ _)) hP.two h))
  · refine lin_in hP (mul_linr hP (T := T) v) hS hC (fun r h => ?_) ((hi u).mp hu)
    rcases List.mem_append.mp h with h | h
    · exact a.act C hC hc v hv r (In.row hP.pos a.vc hP.two h)
    · refine lin_in hP (mul_linr hP (T := T) v) (prodL_vcs hP (T := T) G W) hC (fun z hz => ?_) ((red_in hP (prodL_vcs hP _ _) r).mp (In.row hP.pos (red_vcs hP (prodL_vcs hP _ _)) hP.two h))
      obtain ⟨x, hx, h2⟩ := List.mem_flatMap.mp hz
      obtain ⟨y, hy, rfl⟩ := List.mem_map.mp h2
      rw [← A.ass _ _ _ (hv.vc hP.pos hC) (a.vc x hx) (hW y hy)]
      exact hc _ (a.act C hC hc v hv x (In.row hP.pos a.vc hP.two hx)) y hy
theorem Ga.grow (A : IsAlg p n T one) {W G : List (List Int)} (a : Ga p n T one W G) : G.length ≤ (mRed p n (gStep p n T W G)).length := by
  have hP := A.pr
  have h := spanL_count_le hP a.vc (gStep_vcs hP (T := T) (W := W) a.vc) fun v hv => hv.sub fun r hr => List.mem_append_left _ hr
  rw [count_red hP a.vc, count_red hP (gStep_vcs hP (T := T) (W := W) a.vc), a.red] at h
  refine Nat.le_of_not_lt fun hl => absurd h (Nat.not_le_of_lt ?_)
  exact Nat.pow_lt_pow_right (by have := hP.two; omega) hl
/-- no longer: closed -/
theorem Ga.stop (A : IsAlg p n T one) {W G : List (List Int)} (a : Ga p n T one W G) (h : (mRed p n (gStep p n T W G)).length = G.length) : mRed p n (gStep p n T W G) = G ∧ ∀ v, In p n G v → ∀ w ∈ W, In p n G (mMul p n T v w) := by
  have hP := A.pr
  have hS := gStep_vcs hP (T := T) (W := W) a.vc
  have sub : ∀ v, In p n G v → In p n (gStep p n T W G) v := fun v hv => hv.sub fun r hr => List.mem_append_left _ hr
  have all := in_of_len hP a.vc hS sub (by rw [count_red hP a.vc, count_red hP hS, a.red, h]; exact Nat.le_refl _)
  refine ⟨?_, fun v hv w hw => ?_⟩
  · have := (red_uni hP hS a.vc fun v => ⟨all v, sub v⟩).1
    rw [this, a.red]
  · have hW' : In p n (prodL p n T G W) (mMul p n T v w) := lin_in hP (mul_linl hP (T := T) w) a.vc (prodL_vcs hP _ _) (fun r hr => In.row hP.pos (prodL_vcs hP _ _) hP.two (prodL_mem hr hw)) hv
    exact all _ (((red_in hP (prodL_vcs hP _ _) _).mpr hW').sub fun r hr => List.mem_append_right _ hr)
theorem Ga.isSub (A : IsAlg p n T one) {R W G : List (List Int)} (hR : Vcs p n R) (hW : Vcs p n W) (hw : ∀ v, In p n W v ↔ In p n R v) (a : Ga p n T one W G) (hc : ∀ v, In p n G v → ∀ w ∈ W, In p n G (mMul p n T v w)) : IsSub p n T (one :: R) G := by
  have hP := A.pr
  have hWG : ∀ w ∈ W, In p n G w := fun w h => by
    have := hc one a.un w h
    rw [A.onel w (hW w h)] at this
    exact this
  refine ⟨a.vc, fun r hr => ?_, fun v w hv hw => a.act G a.vc hc v hv w hw, fun B hB h1 h2 v hv => a.min B hB (h1 one List.mem_cons_self) (fun r hr => ?_) h2 v hv⟩
  · rcases List.mem_cons.mp hr with rfl | hr
    · exact a.un
    · exact ((hw r).mpr (In.row hP.pos hR hP.two hr)).mono hP.pos a.vc hWG
  · exact ((hw r).mp (In.row hP.pos hW hP.two hr)).mono hP.pos hB fun s hs => h1 s (List.mem_cons_of_mem _ hs)
end
end Dl
set_option Elab.async false
set_option linter.all false
set_option maxRecDepth 100000
set_option maxHeartbeats 2000000
/-! QuoMath: quotients by an ideal. -/
namespace Dl
open PySem L2
section
variable {p : Int} {n m : Nat} {T : List (List (List Int))} {one : List Int} {q s : List Int → List Int}
theorem Lin.sub (hP : PR p) {f : List Int → List Int} (L : Lin p n m f) {x y : List Int} (hx : Vc p n x) (hy : Vc p n y) : f (mSub p x y) = mSub p (f x) (f y) := by
  rw [sub_eq p (-1) (by simp), sub_eq p (-1) (by simp), L.add _ _ hx (hy.scl' hP.pos), L.scl _ _ hy]
theorem lin_zero_iff (hP : PR p) {f : List Int → List Int} (L : Lin p n m f) {x y : List Int} (hx : Vc p n x) (hy : Vc p n y) : f (mSub p x y) = zer m ↔ f x = f y := by
  rw [L.sub hP hx hy]
  exact sub_zero hP (L.vc x hx) (L.vc y hy)
/-- a linear map onto m places whose zeros are an ideal, with a linear way back -/
structure Quo (p : Int) (n m : Nat) (T : List (List (List Int))) (q s : List Int → List Int) : Prop where
  qL : Lin p n m q
  sL : Lin p m n s
  qs : ∀ y, Vc p m y → q (s y) = y
  kl : ∀ x y, Vc p n x → Vc p n y → q x = zer m → q (mMul p n T x y) = zer m ∧ q (mMul p n T y x) = zer m
def qT (p : Int) (n m : Nat) (T : List (List (List Int))) (q s : List Int → List Int) : List (List (List Int)) := mkT m fun i j => q (mMul p n T (s (unitR m i)) (s (unitR m j)))
theorem Quo.tb (Q : Quo p n m T q s) (hP : PR p) : Tb p m (qT p n m T q s) := by
  refine ⟨by unfold qT mkT; rw [List.length_map, List.length_range], fun i hi => ?_, fun i j hi hj => ?_⟩
  · unfold qT mkT
    rw [range_getD _ _ hi, List.length_map, List.length_range]
  · unfold qT
    rw [ent_mk hi hj]
    exact Q.qL.vc _ (mul_vc hP.pos)
theorem Quo.mul (Q : Quo p n m T q s) (hP : PR p) {x y : List Int} (hx : Vc p m x) (hy : Vc p m y) : mMul p m (qT p n m T q s) x y = q (mMul p n T (s x) (s y)) := by
  have hT := Q.tb hP
  have s1 : ∀ i, i < m → ∀ y, Vc p m y → mMul p m (qT p n m T q s) (unitR m i) y = q (mMul p n T (s (unitR m i)) (s y)) := fun i hi y hy =>
    lin_ext hP (mul_linr hP _) ((Q.sL.comp hP (mul_linr hP (T := T) (s (unitR m i)))).comp hP Q.qL) (fun j hj => by
      rw [mul_units hP hT hi hj]
      unfold qT
      rw [ent_mk hi hj]) hy
  exact lin_ext hP (f := fun x => mMul p m (qT p n m T q s) x y) (g := fun x => q (mMul p n T (s x) (s y))) (mul_linl hP _) ((Q.sL.comp hP (mul_linl hP (T := T) (s y))).comp hP Q.qL) (fun i hi => s1 i hi y hy) hx
theorem Quo.modl (Q : Quo p n m T q s) (hP : PR p) {x x' y : List Int} (hx : Vc p n x) (hx' : Vc p n x') (hy : Vc p n y) (h : q x = q x') : q (mMul p n T x y) = q (mMul p n T x' y) := by
  have h0 := (lin_zero_iff hP Q.qL hx hx').mpr h
  have h1 := (Q.kl _ y (sub_vc hP hx hx') hy h0).1
  rw [(mul_linl hP (T := T) y).sub hP hx hx'] at h1
  exact (lin_zero_iff hP Q.qL (mul_vc hP.pos) (mul_vc hP.pos)).mp h1
theorem Quo.modr (Q : Quo p n m T q s) (hP : PR p) {x x' y : List Int} (hx : Vc p n x) (hx' : Vc p n x') (hy : Vc p n y) (h : q x = q x') : q (mMul p n T y x) = q (mMul p n T y x') := by
  have h0 := (lin_zero_iff hP Q.qL hx hx').mpr h
  have h1 := (Q.kl _ y (sub_vc hP hx hx') hy h0).2
  rw [(mul_linr hP (T := T) y).sub hP hx hx'] at h1
  exact (lin_zero_iff hP Q.qL (mul_vc hP.pos) (mul_vc hP.pos)).mp h1
/-- q keeps products -/
theorem Quo.hom (Q : Quo p n m T q s) (hP : PR p) {x y : List Int} (hx : Vc p n x) (hy : Vc p n y) : q (mMul p n T x y) = mMul p m (qT p n m T q s) (q x) (q y) := by
  have vx := Q.qL.vc x hx
  have vy := Q.qL.vc y hy
  rw [Q.mul hP vx vy, Q.modl hP hx (Q.sL.vc _ vx) hy (Q.qs _ vx).symm, Q.modr hP hy (Q.sL.vc _ vy) (Q.sL.vc _ vx) (Q.qs _ vy).symm]
theorem Quo.alg (Q : Quo p n m T q s) (A : IsAlg p n T one) (hm : 0 < m) : IsAlg p m (qT p n m T q s) (q one) := by
  have hP := A.pr
  have vS := Q.sL.vc
  have vQ := Q.qL.vc
  refine ⟨hP, hm, Q.tb hP, fun x y z hx hy hz => ?_, vQ _ A.ov, fun x hx => ?_, fun x hx => ?_⟩
  · have ex := (Q.qs x hx).symm
    have ey := (Q.qs y hy).symm
    have ez := (Q.qs z hz).symm
    rw [ex, ey, ez, ← Q.hom hP (vS x hx) (vS y hy), ← Q.hom hP (mul_vc hP.pos) (vS z hz), ← Q.hom hP (vS y hy) (vS z hz), ← Q.hom hP (vS x hx) (mul_vc hP.pos), A.ass _ _ _ (vS x hx) (vS y hy) (vS z hz)]
  · have ex := (Q.qs x hx).symm
    rw [ex, ← Q.hom hP A.ov (vS x hx), A.onel _ (vS x hx)]
  · have ex := (Q.qs x hx).symm
    rw [ex, ← Q.hom hP (vS x hx) A.ov, A.oner _ (vS x hx)]
/-! spaces -/
theorem img_in (hP : PR p) (L : Lin p n m q) {U : List (List Int)} (hU : Vcs p n U) {y : List Int} : In p m (U.map q) y ↔ ∃ x, In p n U x ∧ y = q x := by
  have hV : Vcs p m (U.map q) := fun v hv => by
    obtain ⟨x, hx, rfl⟩ := List.mem_map.mp hv
    exact L.vc x (hU x hx)
  constructor
  · intro h
    induction h with
    | zero => exact ⟨zer n, .zero, (L.zer hP).symm⟩
    | add a hw hr ih =>
      obtain ⟨x, hx, e⟩ := ih
      obtain ⟨r', hr', rfl⟩ := List.mem_map.mp hr
      refine ⟨mAdd p x (mScl p a r'), In.sum hP.pos hU hx (In.scl hP.pos hU (In.row hP.pos hU hP.two hr')), ?_⟩
      rw [L.add _ _ (hx.vc hP.pos hU) ((hU r' hr').scl' hP.pos), L.scl _ _ (hU r' hr'), e]
  · rintro ⟨x, hx, rfl⟩
    exact lin_in hP L hU hV (fun r hr => In.row hP.pos hV hP.two (List.mem_map.mpr ⟨r, hr, rfl⟩)) hx
/-- rows I whose sums are the zeros of q -/
def KerI (p : Int) (n m : Nat) (q : List Int → List Int) (I : List (List Int)) : Prop := Vcs p n I ∧ ∀ x, In p n I x ↔ Vc p n x ∧ q x = zer m
def liftL (s : List Int → List Int) (C I : List (List Int)) : List (List Int) := C.map s ++ I
theorem lift_vcs (sL : Lin p m n s) {C I : List (List Int)} (hC : Vcs p m C) (hI : Vcs p n I) : Vcs p n (liftL s C I) := fun v hv => by
  rcases List.mem_append.mp hv with h | h
  · obtain ⟨y, hy, rfl⟩ := List.mem_map.mp h
    exact sL.vc y (hC y hy)
  · exact hI v h
theorem lift_in (Q : Quo p n m T q s) (hP : PR p) {C I : List (List Int)} (hC : Vcs p m C) (hI : KerI p n m q I) {x : List Int} (hx : Vc p n x) : In p n (liftL s C I) x ↔ In p m C (q x) := by
  have hV := lift_vcs Q.sL hC hI.1
  constructor
  · refine fun h => lin_in hP Q.qL hV hC (fun r hr => ?_) h
    rcases List.mem_append.mp hr with h | h
    · obtain ⟨y, hy, rfl⟩ := List.mem_map.mp h
      rw [Q.qs y (hC y hy)]
      exact In.row hP.pos hC hP.two hy
    · rw [((hI.2 r).mp (In.row hP.pos hI.1 hP.two h)).2]
      exact .zero
  · intro h
    have vq := Q.qL.vc x hx
    have vs := Q.sL.vc _ vq
    have h1 : In p n (liftL s C I) (s (q x)) := lin_in hP Q.sL hC hV (fun r hr => In.row hP.pos hV hP.two (List.mem_append_left _ (List.mem_map.mpr ⟨r, hr, rfl⟩))) h
    have h2 : In p n I (mSub p x (s (q x))) := (hI.2 _).mpr ⟨sub_vc hP hx vs, (lin_zero_iff hP Q.qL hx vs).mpr (Q.qs _ vq).symm⟩
    have h3 : In p n (liftL s C I) (mSub p x (s (q x))) := h2.sub fun r hr => List.mem_append_right _ hr
    have e : mAdd p (mSub p x (s (q x))) (s (q x)) = x := by
      have hv := sub_vc hP hx vs
      refine vext hP.pos (hv.add' hP.pos vs) hx fun k => ?_
      rw [cf_add (by rw [hv.1, vs.1]), sub_eq p (-1) (by simp), cf_add (by rw [scl_len, hx.1, vs.1]), cf_scl]
      simp only [Int.add_emod_emod, Int.emod_add_emod, Int.emod_emod]
      congr 1
      omega
    rw [← e]
    exact In.sum hP.pos hV h3 h1
/-- products with all of the algebra, not the basis alone -/
theorem clo_all (hP : PR p) {bl br : Bool} {B : List (List Int)} (hB : Vcs p n B) (h : Clo p n T bl br B) {v x : List Int} (hv : In p n B v) (hx : Vc p n x) : (bl = true → In p n B (mMul p n T x v)) ∧ (br = true → In p n B (mMul p n T v x)) := by
  have hU := units_vcs hP (n := n)
  constructor
  · exact fun e => lin_in hP (mul_linl hP (T := T) v) hU hB (fun r hr => by
      obtain ⟨k, hk, rfl⟩ := List.mem_map.mp hr
      exact h v hv k (List.mem_range.mp hk) _ (mem_sided.mpr (.inl ⟨e, rfl⟩))) (in_units hP hx)
  · exact fun e => lin_in hP (mul_linr hP (T := T) v) hU hB (fun r hr => by
      obtain ⟨k, hk, rfl⟩ := List.mem_map.mp hr
      exact h v hv k (List.mem_range.mp hk) _ (mem_sided.mpr (.inr ⟨e, rfl⟩))) (in_units hP hx)
/-- a space over the ideal is closed exactly if its image is -/
theorem lift_clo (Q : Quo p n m T q s) (hP : PR p) {bl br : Bool} {C L : List (List Int)} (hC : Vcs p m C) (hL : Vcs p n L) (h : ∀ x, Vc p n x → (In p n L x ↔ In p m C (q x))) : Clo p n T bl br L ↔ Clo p m (qT p n m T q s) bl br C := by
  constructor
  · intro h1 v hv k hk y hy
    have hvv := hv.vc hP.pos hC
    have hu := unitR_vc hP.two m k
    have vL : In p n L (s v) := (h _ (Q.sL.vc v hvv)).mpr (by rw [Q.qs v hvv]; exact hv)
    have all := clo_all hP hL h1 vL (Q.sL.vc _ hu)
    rcases mem_sided.mp hy with ⟨e, rfl⟩ | ⟨e, rfl⟩
    · rw [Q.mul hP hu hvv]
      exact (h _ (mul_vc hP.pos)).mp (all.1 e)
    · rw [Q.mul hP hvv hu]
      exact (h _ (mul_vc hP.pos)).mp (all.2 e)
  · intro h1 v hv k hk y hy
    have hvv := hv.vc hP.pos hL
    have hu := unitR_vc hP.two n k
    have vC := (h v hvv).mp hv
    have all := clo_all hP hC h1 vC (Q.qL.vc _ hu)
    rcases mem_sided.mp hy with ⟨e, rfl⟩ | ⟨e, rfl⟩
    · refine (h _ (mul_vc hP.pos)).mpr ?_
      rw [Q.hom hP hu hvv]
      exact all.1 e
    · refine (h _ (mul_vc hP.pos)).mpr ?_
      rw [Q.hom hP hvv hu]
      exact all.2 e
end
/-! ### the maps of the code -/
section
variable {p : Int} {n : Nat} {T : List (List (List Int))} {one : List Int} {I : List (List Int)}
def freeP (n : Nat) (I : List (List Int)) : List Nat := (List.range n).filter fun a => !decide (a ∈ I.map mPv)
def qC (p : Int) (n : Nat) (I : List (List Int)) (x : List Int) : List Int := (freeP n I).map (cf (mRest p I x))
def sM (n : Nat) (I : List (List Int)) (y : List Int) : List Int := (List.range n).map fun a => if a ∈ freeP n I then cf y ((freeP n I).idxOf a) else 0
theorem free_mem {a : Nat} : a ∈ freeP n I ↔ a < n ∧ a ∉ I.map mPv := by
  unfold freeP
  rw [List.mem_filter, List.mem_range]
  simp
theorem free_nodup : (freeP n I).Nodup := List.Pairwise.filter _ List.nodup_range
theorem free_len (hF : InForm n I) : (freeP n I).length + I.length = n := by
  have h := filter_two (fun a => decide (a ∈ I.map mPv)) (List.range n)
  rw [List.length_range] at h
  have e : (List.range n).filter (fun a => decide (a ∈ I.map mPv)) = I.map mPv := sorted_eq (List.Pairwise.filter _ List.pairwise_lt_range) hF.sorted fun a => by
    rw [List.mem_filter, List.mem_range, decide_eq_true_iff]
    exact ⟨fun h => h.2, fun h => ⟨by
      obtain ⟨r, hr, rfl⟩ := List.mem_map.mp h
      exact hF.pvn hr, h⟩⟩
  rw [e, List.length_map] at h
  unfold freeP
  omega
theorem rest_lin (hP : PR p) (hI : Vcs p n I) : Lin p n n (mRest p I) where
  vc := fun x hx => rest_vc hP.pos hI hx
  add := fun x y hx hy => by
    have h := rest_sum hP.pos (a := 1) hI hx hy
    have e : ∀ v, Vc p n v → mScl p 1 v = v := fun v hv => vext hP.pos (hv.scl' hP.pos) hv fun k => by
      rw [cf_scl, Int.mul_one, Int.emod_emod]
    rw [e y hy, e _ (rest_vc hP.pos hI hy)] at h
    exact h
  scl := fun a x hx => by
    have h := rest_sum hP.pos (a := a) hI (Vc.zer hP.pos : Vc p n (zer n)) hx
    have e : ∀ v, Vc p n v → mAdd p (zer n) v = v := fun v hv => vext hP.pos ((Vc.zer hP.pos : Vc p n (zer n)).add' hP.pos hv) hv fun k => by
      rw [cf_add (by rw [hv.1]; exact List.length_replicate), cf_zer, Int.zero_add, Int.emod_emod]
    rw [e _ (hx.scl' hP.pos), rest_zer, e _ ((rest_vc hP.pos hI hx).scl' hP.pos)] at h
    exact h
theorem qC_cf (x : List Int) {i : Nat} (hi : i < (freeP n I).length) : cf (qC p n I x) i = cf (mRest p I x) ((freeP n I)[i]) := by
  unfold qC
  rw [cf_lt (by rw [List.length_map]; exact hi), List.getElem_map]
theorem qC_vc (hP : PR p) (hI : Vcs p n I) {x : List Int} (hx : Vc p n x) : Vc p (freeP n I).length (qC p n I x) := ⟨by unfold qC; rw [List.length_map], fun z hz => by
  obtain ⟨a, ha, rfl⟩ := List.mem_map.mp hz
  exact (rest_vc hP.pos hI hx).at (free_mem.mp ha).1⟩
theorem qC_lin (hP : PR p) (hI : Vcs p n I) : Lin p n (freeP n I).length (qC p n I) where
  vc := fun x hx => qC_vc hP hI hx
  add := fun x y hx hy => by
    have v1 := qC_vc hP hI hx
    have v2 := qC_vc hP hI hy
    refine vext0 (qC_vc hP hI (hx.add' hP.pos hy)).1 (v1.add' hP.pos v2).1 fun k hk => ?_
    rw [qC_cf _ hk, (rest_lin hP hI).add x y hx hy, cf_add (by rw [(rest_vc hP.pos hI hx).1, (rest_vc hP.pos hI hy).1]), cf_add (by rw [v1.1, v2.1]), qC_cf _ hk, qC_cf _ hk]
  scl := fun a x hx => by
    have v1 := qC_vc hP hI hx
    refine vext0 (qC_vc hP hI (hx.scl' hP.pos)).1 (v1.scl' hP.pos).1 fun k hk => ?_
    rw [qC_cf _ hk, (rest_lin hP hI).scl a x hx, cf_scl, cf_scl, qC_cf _ hk]
theorem sM_len (y : List Int) : (sM n I y).length = n := by unfold sM; rw [List.length_map, List.length_range]
theorem sM_cf (y : List Int) {a : Nat} (ha : a < n) : cf (sM n I y) a = if a ∈ freeP n I then cf y ((freeP n I).idxOf a) else 0 := by
  rw [cf_lt (by rw [sM_len]; exact ha)]
  unfold sM
  rw [List.getElem_map, List.getElem_range]
theorem sM_vc (hP : PR p) {y : List Int} (hy : Vc p (freeP n I).length y) : Vc p n (sM n I y) := ⟨sM_len y, fun z hz => by
  obtain ⟨a, ha, rfl⟩ := List.mem_map.mp hz
  by_cases e : a ∈ freeP n I
  · rw [if_pos e]
    exact hy.at (List.idxOf_lt_length_of_mem e)
  · rw [if_neg e]
    have := hP.pos
    omega⟩
theorem sM_lin (hP : PR p) : Lin p (freeP n I).length n (sM n I) where
  vc := fun y hy => sM_vc hP hy
  add := fun x y hx hy => by
    have v1 := sM_vc (n := n) (I := I) hP hx
    have v2 := sM_vc (n := n) (I := I) hP hy
    refine vext0 (sM_len _) (v1.add' hP.pos v2).1 fun a ha => ?_
    by_cases e : a ∈ freeP n I
    · rw [sM_cf _ ha, if_pos e, cf_add (by rw [hx.1, hy.1]), cf_add (by rw [v1.1, v2.1]), sM_cf _ ha, if_pos e, sM_cf _ ha, if_pos e]
    · rw [sM_cf _ ha, if_neg e, cf_add (by rw [v1.1, v2.1]), sM_cf _ ha, if_neg e, sM_cf _ ha, if_neg e]
      rfl
  scl := fun c x hx => by
    have v1 := sM_vc (n := n) (I := I) hP hx
    refine vext0 (sM_len _) (v1.scl' hP.pos).1 fun a ha => ?_
    by_cases e : a ∈ freeP n I
    · rw [sM_cf _ ha, if_pos e, cf_scl, cf_scl, sM_cf _ ha, if_pos e]
    · rw [sM_cf _ ha, if_neg e, cf_scl, sM_cf _ ha, if_neg e, Int.zero_mul, Int.zero_emod]
theorem sM_piv (y : List Int) (hF : InForm n I) {r : List Int} (hr : r ∈ I) : cf (sM n I y) (mPv r) = 0 := by
  rw [sM_cf _ (hF.pvn hr), if_neg fun h => (free_mem.mp h).2 (List.mem_map.mpr ⟨r, hr, rfl⟩)]
theorem qs_id (hP : PR p) (hF : InForm n I) (hI : Vcs p n I) {y : List Int} (hy : Vc p (freeP n I).length y) : qC p n I (sM n I y) = y := by
  refine vext0 (qC_vc hP hI (sM_vc hP hy)).1 hy.1 fun k hk => ?_
  rw [qC_cf _ hk, rest_id fun r hr => sM_piv y hF hr]
  have hm : (freeP n I)[k] ∈ freeP n I := List.getElem_mem hk
  rw [sM_cf _ (free_mem.mp hm).1, if_pos hm]
  congr 1
  exact List.Nodup.idxOf_getElem free_nodup k hk
theorem qC_ker (hP : PR p) (hF : InForm n I) (hI : Vcs p n I) {x : List Int} (hx : Vc p n x) : qC p n I x = zer (freeP n I).length ↔ In p n I x := by
  rw [← rest_iff hP hF hI hx]
  have hv := rest_vc hP.pos hI hx
  constructor
  · intro h
    refine vext0 hv.1 List.length_replicate fun a ha => ?_
    rw [cf_zer]
    by_cases e : a ∈ freeP n I
    · have h1 := List.idxOf_lt_length_of_mem e
      have := qC_cf (p := p) x h1
      rw [h, cf_zer, List.getElem_idxOf] at this
      exact this.symm
    · have : a ∈ I.map mPv := Classical.byContradiction fun z => e (free_mem.mpr ⟨ha, z⟩)
      obtain ⟨r, hr, rfl⟩ := List.mem_map.mp this
      obtain ⟨i, hi, e2⟩ := hF.pvs hr
      rw [← e2]
      exact rest_piv hP.pos hF hI hx hi
  · intro h
    refine vext0 (qC_vc hP hI hx).1 List.length_replicate fun k hk => ?_
    rw [qC_cf _ hk, h, cf_zer, cf_zer]
theorem kerI (hP : PR p) (hF : InForm n I) (hI : Vcs p n I) : KerI p n (freeP n I).length (qC p n I) I := ⟨hI, fun x => ⟨fun h => ⟨h.vc hP.pos hI, (qC_ker hP hF hI (h.vc hP.pos hI)).mpr h⟩, fun h => (qC_ker hP hF hI h.1).mp h.2⟩⟩
theorem quoC (hP : PR p) (hF : InForm n I) (hI : Vcs p n I) (hc : Clo p n T true true I) : Quo p n (freeP n I).length T (qC p n I) (sM n I) where
  qL := qC_lin hP hI
  sL := sM_lin hP
  qs := fun y hy => qs_id hP hF hI hy
  kl := fun x y hx hy h => by
    have hx2 := (qC_ker hP hF hI hx).mp h
    have all := clo_all hP hI hc hx2 hy
    exact ⟨(qC_ker hP hF hI (mul_vc hP.pos)).mpr (all.2 rfl), (qC_ker hP hF hI (mul_vc hP.pos)).mpr (all.1 rfl)⟩
end
end Dl
set_option Elab.async false
set_option linter.all false
set_option maxRecDepth 100000
set_option maxHeartbeats 2000000
/-! QuoDef: what the defs about quotients compute. -/
namespace Dl
open PySem PySem.Spec PyProof.Rows L2
section
variable {F : Fm} {ks : List Kd} {E : Ends}
theorem cav_min {ns : List Int} {m0 : Int} (hm : m0 ∈ ns) (hl : ∀ y ∈ ns, m0 ≤ y) : CaV F ks (rMin F.K) [.lst (ns.map D.int)] (fun d => d = .int m0) := fun M σ H o vs a Q q => by
  cases a with
  | cons a1 a2 =>
    cases a2
    cases a1 with
    | lst h hs =>
      have e := hs.ints
      subst e
      refine ⟨_, ns, rfl, .inl (.inl (hid_same _ _ h)), List.length_pos_of_mem hm, fun m h1 h2 => q _ _ H o .refl (.int _) ?_⟩
      have := hl m h1
      have := h2 m0 hm
      congr 1
      omega
end
section
variable {p : Int} {n : Nat} {T : List (List (List Int))} {I : List (List Int)}
theorem nz_min {row : List Int} (hne : nz row ≠ []) : ((mPv row : Nat) : Int) ∈ (nz row).map (fun (k : Nat) => (k : Int)) ∧ ∀ y ∈ (nz row).map (fun (k : Nat) => (k : Int)), ((mPv row : Nat) : Int) ≤ y := by
  refine ⟨List.mem_map.mpr ⟨mPv row, mPv_mem hne, rfl⟩, fun y hy => ?_⟩
  obtain ⟨k, hk, rfl⟩ := List.mem_map.mp hy
  have h := (nz_low hne).1 k
  have h2 := (nz_mem hk).2
  exact Int.ofNat_le.mpr (Nat.le_of_not_lt fun z => h2 (h z))
/-- y put at the free places, as far as the place k -/
def sMk (n : Nat) (I : List (List Int)) (y : List Int) (k : Nat) : List Int := (List.range n).map fun a => if a ∈ (freeP n I).take k then cf y ((freeP n I).idxOf a) else 0
theorem sMk_zero (y : List Int) : sMk n I y 0 = zer n := by
  unfold sMk
  rw [← zer_map n]
  simp
theorem sMk_all (y : List Int) : sMk n I y (freeP n I).length = sM n I y := by
  unfold sMk sM
  rw [List.take_length]
theorem sMk_len (y : List Int) (k : Nat) : (sMk n I y k).length = n := by unfold sMk; rw [List.length_map, List.length_range]
theorem sMk_cf (y : List Int) (k : Nat) {a : Nat} (ha : a < n) : cf (sMk n I y k) a = if a ∈ (freeP n I).take k then cf y ((freeP n I).idxOf a) else 0 := by
  rw [cf_lt (by rw [sMk_len]; exact ha)]
  unfold sMk
  rw [List.getElem_map, List.getElem_range]
theorem sMk_succ (y : List Int) {k a : Nat} (h : (freeP n I)[k]? = some a) : sMk n I y (k + 1) = (sMk n I y k).set a (cf y k) := by
  have ha := (free_mem.mp (List.mem_of_getElem? h)).1
  have hk : k < (freeP n I).length := (List.getElem?_eq_some_iff.mp h).1
  have hix : (freeP n I).idxOf a = k := by
    have e : (freeP n I)[k] = a := (List.getElem?_eq_some_iff.mp h).2
    rw [← e]
    exact List.Nodup.idxOf_getElem free_nodup k hk
  refine vext0 (sMk_len _ _) (by rw [List.length_set, sMk_len]) fun b hb => ?_
  have hset : cf ((sMk n I y k).set a (cf y k)) b = if b = a then cf y k else cf (sMk n I y k) b := getD_set 0 (by rw [sMk_len]; exact ha)
  rw [hset, sMk_cf _ _ hb, sMk_cf _ _ hb, List.take_add_one, h, Option.toList_some]
  by_cases e : b = a
  · subst e
    rw [if_pos rfl, if_pos (List.mem_append_right _ List.mem_cons_self), hix]
  · rw [if_neg e]
    have : b ∈ (freeP n I).take k ++ [a] ↔ b ∈ (freeP n I).take k := by
      rw [List.mem_append, List.mem_singleton]
      exact ⟨fun h => h.elim id fun z => absurd z e, .inl⟩
    simp only [this]
/-- the way back of a unit -/
theorem sM_unit {i : Nat} (hi : i < (freeP n I).length) : sM n I (unitR (freeP n I).length i) = unitR n (freeP n I)[i] := by
  have hm := List.getElem_mem hi
  refine vext0 (sM_len _) (unitR_len _ _) fun a ha => ?_
  rw [sM_cf _ ha, cf_unitR ha]
  by_cases e : a ∈ freeP n I
  · rw [if_pos e, cf_unitR (List.idxOf_lt_length_of_mem e)]
    by_cases e2 : a = (freeP n I)[i]
    · rw [if_pos e2, if_pos]
      rw [e2]
      exact List.Nodup.idxOf_getElem free_nodup i hi
    · rw [if_neg e2, if_neg]
      intro z
      refine e2 ?_
      have := List.getElem_idxOf (List.idxOf_lt_length_of_mem e)
      rw [← this]
      congr 1
  · rw [if_neg e, if_neg]
    intro z
    exact e (by rw [z]; exact hm)
end
/-- the quotient -/
def quoA (A : Alg) (I : List (List Int)) : Alg := ⟨A.p, (freeP A.n I).length, qT A.p A.n (freeP A.n I).length A.T (qC A.p A.n I) (sM A.n I), qC A.p A.n I A.one⟩
/-- an ideal other than the whole algebra -/
structure Idl (A : Alg) (I : List (List Int)) : Prop where
  ok : A.Ok
  sp : Sp1 A I
  cl : Clo A.p A.n A.T true true I
  pr : I.length ≠ A.n
theorem Idl.form {A : Alg} {I : List (List Int)} (h : Idl A I) : InForm A.n I := h.sp.form h.ok
theorem Idl.quo {A : Alg} {I : List (List Int)} (h : Idl A I) : Quo A.p A.n (freeP A.n I).length A.T (qC A.p A.n I) (sM A.n I) := quoC h.ok.1.pr h.form h.sp.vc h.cl
theorem Idl.len {A : Alg} {I : List (List Int)} (h : Idl A I) : (freeP A.n I).length + I.length = A.n := free_len h.form
theorem Idl.pos {A : Alg} {I : List (List Int)} (h : Idl A I) : 0 < (freeP A.n I).length := by
  have := h.len
  have := h.pr
  have := form_n h.form
  omega
theorem Idl.ker {A : Alg} {I : List (List Int)} (h : Idl A I) : KerI A.p A.n (freeP A.n I).length (qC A.p A.n I) I := kerI h.ok.1.pr h.form h.sp.vc
theorem Idl.okQ {A : Alg} {I : List (List Int)} (h : Idl A I) : (quoA A I).Ok := by
  have hl := h.len
  have hn := h.ok.2.1
  refine ⟨h.quo.alg h.ok.1 h.pos, by show (freeP A.n I).length ≤ 12; omega, ?_⟩
  show A.p.toNat ^ (freeP A.n I).length ≤ 4096
  refine Nat.le_trans (Nat.pow_le_pow_right (by have := h.ok.1.pr.two; omega) ?_) h.ok.2.2
  omega
end Dl
set_option Elab.async false
set_option linter.all false
set_option maxRecDepth 100000
set_option maxHeartbeats 2000000
/-! QuoLaw: spaces over an ideal, as the laws ask for them. -/
namespace Dl
open PySem PySem.Spec PyProof.Rows L2
section
variable {F : Fm} {ks : List Kd} {E : Ends}
/-- two lists of one's own are read in a test -/
theorem et_lend2 {i j : Nat} {ds es : List D} {tt : TT} {b : Bool} (hi : ks[i]? = some (.own fun x => x = ds)) (hj : (ks.set i (.dat (.lst ds)))[j]? = some (.own fun x => x = es)) (only : ((ks.set i (.dat (.lst ds))).set j (.dat (.lst es))).all (fun k => !isM k) = true) (h : EvT F ((ks.set i (.dat (.lst ds))).set j (.dat (.lst es))) tt b) : EvT F ks tt b := fun M σ H o Q q => by
  obtain ⟨M', o'⟩ := o.freeze hi
  obtain ⟨M2, o2⟩ := o'.freeze hj
  refine h M2 σ H o2 Q fun c H' o3 st r => ?_
  have e : Same H H' := fun a u hu => st a u hu fun ⟨j, k, hj, hm, _⟩ => by
    have := List.all_eq_true.mp only k (List.mem_of_getElem? hj)
    rw [hm] at this
    cases this
  exact q c H' (o.same e) (Step.of e) r
end
section
variable {p : Int} {n m : Nat} {T : List (List (List Int))} {one : List Int} {q s : List Int → List Int}
theorem map_vcs {f : List Int → List Int} (L : Lin p n m f) {U : List (List Int)} (hU : Vcs p n U) : Vcs p m (U.map f) := fun v hv => by
  obtain ⟨x, hx, rfl⟩ := List.mem_map.mp hv
  exact L.vc x (hU x hx)
theorem app_vcs {A B : List (List Int)} (hA : Vcs p n A) (hB : Vcs p n B) : Vcs p n (A ++ B) := fun v hv => by
  rcases List.mem_append.mp hv with h | h
  · exact hA v h
  · exact hB v h
/-- rows over the ideal -/
theorem over_in (Q : Quo p n m T q s) (hP : PR p) {R I : List (List Int)} (hR : Vcs p n R) (hI : KerI p n m q I) {x : List Int} (hx : Vc p n x) : In p n (R ++ I) x ↔ In p m (R.map q) (q x) := by
  have hV := app_vcs hR hI.1
  have hM := map_vcs Q.qL hR
  constructor
  · refine fun h => lin_in hP Q.qL hV hM (fun r hr => ?_) h
    rcases List.mem_append.mp hr with h | h
    · exact In.row hP.pos hM hP.two (List.mem_map.mpr ⟨r, h, rfl⟩)
    · rw [((hI.2 r).mp (In.row hP.pos hI.1 hP.two h)).2]
      exact .zero
  · intro h
    obtain ⟨u, hu, e⟩ := (img_in hP Q.qL hR).mp h
    have huv := hu.vc hP.pos hR
    have h2 : In p n I (mSub p x u) := (hI.2 _).mpr ⟨sub_vc hP hx huv, (lin_zero_iff hP Q.qL hx huv).mpr e⟩
    have h3 : In p n (R ++ I) (mSub p x u) := h2.sub fun r hr => List.mem_append_right _ hr
    have h4 : In p n (R ++ I) u := hu.sub fun r hr => List.mem_append_left _ hr
    have e2 : mAdd p (mSub p x u) u = x := by
      have hv := sub_vc hP hx huv
      refine vext hP.pos (hv.add' hP.pos huv) hx fun k => ?_
      rw [cf_add (by rw [hv.1, huv.1]), sub_eq p (-1) (by simp), cf_add (by rw [scl_len, hx.1, huv.1]), cf_scl]
      simp only [Int.add_emod_emod, Int.emod_add_emod, Int.emod_emod]
      congr 1
      omega
    rw [← e2]
    exact In.sum hP.pos hV h3 h4
theorem map_back (Q : Quo p n m T q s) {C : List (List Int)} (hC : Vcs p m C) : (C.map s).map q = C := by
  rw [List.map_map]
  have : ∀ y ∈ C, (q ∘ s) y = y := fun y hy => Q.qs y (hC y hy)
  exact (List.map_congr_left this).trans (List.map_id' C)
/-- the image of what lies over C is C -/
theorem img_lift (Q : Quo p n m T q s) (hP : PR p) {C L : List (List Int)} (hC : Vcs p m C) (hr : mRed p m C = C) (hL : Vcs p n L) (h : ∀ x, Vc p n x → (In p n L x ↔ In p m C (q x))) : mRed p m (L.map q) = C := by
  refine ((red_uni hP (map_vcs Q.qL hL) hC fun y => ?_).1).trans hr
  rw [img_in hP Q.qL hL]
  constructor
  · rintro ⟨x, hx, rfl⟩
    exact (h x (hx.vc hP.pos hL)).mp hx
  · intro hy
    have hyv := hy.vc hP.pos hC
    exact ⟨s y, (h _ (Q.sL.vc y hyv)).mpr (by rw [Q.qs y hyv]; exact hy), (Q.qs y hyv).symm⟩
/-- how many lie over C -/
theorem lift_rank (Q : Quo p n m T q s) (hP : PR p) {C I : List (List Int)} (hC : Vcs p m C) (hI : KerI p n m q I) (rC : mRed p m C = C) (rI : mRed p n I = I) : (mRed p n (liftL s C I)).length = C.length + I.length := by
  have hL := lift_vcs Q.sL hC hI.1
  have inL := fun {x} hx => lift_in Q hP hC hI (x := x) hx
  have nC := nodup_spanL hP hC
  have nI := nodup_spanL hP hI.1
  have mC := fun y => mem_spanL hP hC y
  have mI := fun y => mem_spanL hP hI.1 y
  have vI : ∀ z ∈ spanL p n I, Vc p n z ∧ q z = zer m := fun z hz => (hI.2 z).mp ((mI z).mp hz)
  have vC : ∀ y ∈ spanL p m C, Vc p m y := fun y hy => ((mC y).mp hy).vc hP.pos hC
  have qz : ∀ y ∈ spanL p m C, ∀ z ∈ spanL p n I, q (mAdd p (s y) z) = y := fun y hy z hz => by
    obtain ⟨h1, h2⟩ := vI z hz
    rw [Q.qL.add _ _ (Q.sL.vc y (vC y hy)) h1, h2, Q.qs y (vC y hy)]
    have hyv := vC y hy
    refine vext hP.pos (hyv.add' hP.pos (Vc.zer hP.pos)) hyv fun k => ?_
    rw [cf_add (by rw [hyv.1]; exact List.length_replicate.symm), cf_zer, Int.add_zero, Int.emod_emod]
  have inj : ∀ y, Vc p n y → ∀ z ∈ spanL p n I, ∀ z' ∈ spanL p n I, mAdd p y z = mAdd p y z' → z = z' := fun y hy z hz z' hz' e => by
    have h1 := (vI z hz).1
    have h2 := (vI z' hz').1
    refine vext hP.pos h1 h2 fun k => ?_
    have := congrArg (fun v => cf v k) e
    rw [cf_add (by rw [hy.1, h1.1]), cf_add (by rw [hy.1, h2.1])] at this
    have h3 := Int.emod_eq_emod_iff_emod_sub_eq_zero.mp this
    refine Int.emod_eq_emod_iff_emod_sub_eq_zero.mpr ?_
    rw [← h3]
    congr 1
    omega
  have nP : ((spanL p m C).flatMap fun y => (spanL p n I).map fun z => mAdd p (s y) z).Nodup := nodup_flatMap' nC (fun y hy => nodup_map' nI fun z hz z' hz' e => inj _ (Q.sL.vc y (vC y hy)) z hz z' hz' e) fun y hy y' hy' hne x hx hx' => by
    obtain ⟨z, hz, rfl⟩ := List.mem_map.mp hx
    obtain ⟨z', hz', e⟩ := List.mem_map.mp hx'
    refine hne ?_
    rw [← qz y hy z hz, ← qz y' hy' z' hz', e]
  have lP := flatMap_len (fun y => (spanL p n I).map fun z => mAdd p (s y) z) (spanL p n I).length (fun y => by rw [List.length_map]) (spanL p m C)
  have sub1 := nodup_sub_len nP (m := spanL p n (liftL s C I)) fun x hx => by
    obtain ⟨y, hy, h⟩ := List.mem_flatMap.mp hx
    obtain ⟨z, hz, rfl⟩ := List.mem_map.mp h
    refine (mem_spanL hP hL _).mpr ((inL ((Q.sL.vc y (vC y hy)).add' hP.pos (vI z hz).1)).mpr ?_)
    rw [qz y hy z hz]
    exact (mC y).mp hy
  have sub2 := nodup_sub_len (nodup_spanL hP hL) (m := (spanL p m C).flatMap fun y => (spanL p n I).map fun z => mAdd p (s y) z) fun x hx => by
    have hxi := (mem_spanL hP hL x).mp hx
    have hxv := hxi.vc hP.pos hL
    have hq := (inL hxv).mp hxi
    have vq := Q.qL.vc x hxv
    have vs := Q.sL.vc _ vq
    have h2 : In p n I (mSub p x (s (q x))) := (hI.2 _).mpr ⟨sub_vc hP hxv vs, (lin_zero_iff hP Q.qL hxv vs).mpr (Q.qs _ vq).symm⟩
    refine List.mem_flatMap.mpr ⟨q x, (mC _).mpr hq, List.mem_map.mpr ⟨_, (mI _).mpr h2, ?_⟩⟩
    have hv := sub_vc hP hxv vs
    refine vext hP.pos (vs.add' hP.pos hv) hxv fun k => ?_
    rw [cf_add (by rw [hv.1, vs.1]), sub_eq p (-1) (by simp), cf_add (by rw [scl_len, hxv.1, vs.1]), cf_scl]
    simp only [Int.add_emod_emod, Int.emod_add_emod, Int.emod_emod]
    congr 1
    omega
  rw [lP] at sub1 sub2
  have e : (spanL p n (liftL s C I)).length = (spanL p m C).length * (spanL p n I).length := by omega
  rw [count_red hP hL, count_red hP hC, count_red hP hI.1, rC, rI, ← Nat.pow_add] at e
  exact pow_inj hP e
end
/-! the law's own class, and the list of the classes -/
section
variable {p : Int} {n : Nat} {I : List (List Int)}
theorem clr_law (hP : PR p) {v r : List Int} (hv : Vc p n v) (hr : Vc p n r) (j : Nat) : mAdd p v (mScl p (p - cf v j) r) = mClr p j r v := by
  have hc := Vc.clr (j := j) hP.pos hr.1 hv
  refine vext hP.pos (hv.add' hP.pos (hr.scl' hP.pos)) hc fun k => ?_
  rw [cf_add (by rw [scl_len, hv.1, hr.1]), cf_scl, cf_clr hP.pos hv hr.1, Int.add_emod_emod, Int.emod_emod, Int.emod_emod]
  refine Int.emod_eq_emod_iff_emod_sub_eq_zero.mpr ?_
  have e : cf v k + cf r k * (p - cf v j) - (cf v k - cf v j * cf r k) = p * cf r k := by grind
  rw [e]
  exact Int.mul_emod_right _ _
def dueL (f : List Int → List Int) (W : List (List Int)) : List (List Int) := W.foldl (fun acc x => if f x ∈ acc then acc else acc ++ [f x]) []
theorem dueL_snoc (f : List Int → List Int) (W : List (List Int)) (x : List Int) : dueL f (W ++ [x]) = if f x ∈ dueL f W then dueL f W else dueL f W ++ [f x] := by
  unfold dueL
  rw [List.foldl_append]
  rfl
theorem dueL_ok (f : List Int → List Int) : ∀ W : List (List Int), (dueL f W).Nodup ∧ (∀ y, y ∈ dueL f W ↔ ∃ x ∈ W, f x = y) ∧ (dueL f W).length ≤ W.length := by
  suffices H : ∀ (k : Nat) (W : List (List Int)), W.length = k → (dueL f W).Nodup ∧ (∀ y, y ∈ dueL f W ↔ ∃ x ∈ W, f x = y) ∧ (dueL f W).length ≤ W.length from fun W => H _ W rfl
  intro k
  induction k with
  | zero =>
    intro W hW
    rw [List.eq_nil_of_length_eq_zero hW]
    exact ⟨List.nodup_nil, fun y => ⟨(fun h => nomatch h), (fun ⟨x, h, _⟩ => nomatch h)⟩, Nat.le_refl _⟩
  | succ k ih =>
    intro W' hW
    have hne : W' ≠ [] := fun z => by rw [z] at hW; cases hW
    obtain ⟨h1, h2, h3⟩ := ih W'.dropLast (by rw [List.length_dropLast]; omega)
    rw [← List.dropLast_concat_getLast hne]
    generalize W'.dropLast = W at h1 h2 h3
    generalize W'.getLast hne = x
    rw [dueL_snoc, List.length_append]
    by_cases e : f x ∈ dueL f W
    · rw [if_pos e]
      refine ⟨h1, fun y => ?_, by omega⟩
      rw [h2]
      constructor
      · rintro ⟨z, hz, rfl⟩
        exact ⟨z, List.mem_append_left _ hz, rfl⟩
      · rintro ⟨z, hz, rfl⟩
        rcases List.mem_append.mp hz with h | h
        · exact ⟨z, h, rfl⟩
        · rw [List.mem_singleton.mp h]
          exact (h2 _).mp e
    · rw [if_neg e]
      refine ⟨?_, fun y => ?_, by rw [List.length_append]; simp; omega⟩
      · rw [List.nodup_append]
        refine ⟨h1, by simp, fun a ha b hb => ?_⟩
        rw [List.mem_singleton.mp hb]
        intro z
        exact e (by rw [← z]; exact ha)
      · rw [List.mem_append, h2, List.mem_singleton]
        constructor
        · rintro (⟨z, hz, rfl⟩ | rfl)
          · exact ⟨z, List.mem_append_left _ hz, rfl⟩
          · exact ⟨x, List.mem_append_right _ List.mem_cons_self, rfl⟩
        · rintro ⟨z, hz, rfl⟩
          rcases List.mem_append.mp hz with h | h
          · exact .inl ⟨z, h, rfl⟩
          · exact .inr (by rw [List.mem_singleton.mp h])
theorem sort_same {l m : List (List Int)} (hl : l.Nodup) (hm : m.Nodup) (h : ∀ v, v ∈ l ↔ v ∈ m) : l.mergeSort SortR.leR = m.mergeSort SortR.leR := by
  have tr : ∀ a b c : List Int, SortR.leR a b = true → SortR.leR b c = true → SortR.leR a c = true := fun a b c h1 h2 => (leR_iff _ _).mpr (List.le_trans ((leR_iff _ _).mp h1) ((leR_iff _ _).mp h2))
  have to : ∀ a b : List Int, (SortR.leR a b || SortR.leR b a) = true := fun a b => by
    rcases List.le_total a b with h | h
    · rw [(leR_iff _ _).mpr h]; rfl
    · rw [(leR_iff _ _).mpr h, Bool.or_true]
  refine List.Perm.eq_of_pairwise (le := fun a b => SortR.leR a b = true) (fun a b _ _ h1 h2 => List.le_antisymm ((leR_iff _ _).mp h1) ((leR_iff _ _).mp h2)) (List.pairwise_mergeSort tr to _) (List.pairwise_mergeSort tr to _) ?_
  refine (List.mergeSort_perm _ _).trans (List.Perm.trans ?_ (List.mergeSort_perm _ _).symm)
  rw [List.perm_ext_iff_of_nodup hl hm]
  exact h
end
end Dl
set_option Elab.async false
set_option linter.all false
set_option maxRecDepth 100000
set_option maxHeartbeats 2000000
/-! TryMix: except clauses, some with a name, some without. -/
namespace Dl
open PySem PySem.Spec PyProof.Rows L2
/-- X's frame has caught a: s stands over sI, which knew nothing of it -/
structure Got (X : Cx) (pins : List (Addr × Obj)) (σ : L2.St) (H : Hp) (a : Addr) (cls : Value) (d : Option Addr) (B : Heap) (sI s : Shared) : Prop where
  inv : Inv X pins σ H sI
  gnd : ∀ b o, sI.heap.get? b = some o → b ∉ frs X.stack → B.get? b = some o
  slt : sI.heap.UpToSlots s.heap
  fly : HandSPX.FlyingZ B (X.env :: X.outer) a (Zc cls d) s.heap
  non : H a = none
  oss : s.os = sI.os
  bar : AllBare s.gens
/-- what a suite is met with -/
abbrev SU := Addr → Value → Option Addr → TS
abbrev WD := Ends → WX
section
variable {X : Cx} {pins : List (Addr × Obj)} {σ : L2.St} {H : Hp} {a : Addr} {cls : Value} {d : Option Addr} {B : Heap} {sI s : Shared}
theorem Got.here (G : Got X pins σ H a cls d B sI s) : Inv X pins σ H s := G.inv.landed G.gnd G.fly.1 G.slt G.oss G.bar
theorem Got.step (G : Got X pins σ H a cls d B sI s) {h' : Heap} (f : HandSPX.FlyingZ B (X.env :: X.outer) a (Zc cls d) h') (u : s.heap.UpToSlots h') : Got X pins σ H a cls d B sI { s with heap := h' } :=
  ⟨G.inv, G.gnd, G.slt.trans u, f, G.non, G.oss, G.bar⟩
theorem Got.sui (hf : X.env.frame = some X.env.locals) (G : Got X pins σ H a cls d B sI s) : ∃ oe vs, s.heap.get? a = some oe ∧ Zc cls d oe ∧ oe.data = .fields vs ∧ Inv (X.suite a ((a, oe) :: (X.pn ++ pins))) [] σ H s := by
  obtain ⟨oe, vs, g1, g2, g3⟩ := G.fly.there
  have out : a ∉ frs (X.env :: X.outer) := fun mem => by
    obtain ⟨_, o2, g4, g5⟩ := G.fly.2.2.1.mem mem
    cases g1.symm.trans g4
    exact g5 _ g3
  refine ⟨oe, vs, g1, g2, g3, G.here.suite g1 g3 G.non (fun eq => out ?_) fun mem => out ?_⟩
  · exact List.mem_filterMap.mpr ⟨_, List.mem_cons_self, hf.trans (by rw [eq])⟩
  · obtain ⟨fr, m1, m2⟩ := List.mem_filterMap.mp mem
    exact List.mem_filterMap.mpr ⟨fr, .tail _ m1, m2⟩
/-- the clauses hds handle what w allows -/
structure Hds (X : Cx) (hds : List ExceptHandler) (w : WD) : Prop where
  run : ∀ {pins : List (Addr × Obj)} {σ : L2.St} {H : Hp} {a : Addr} {cls : Value} {d : Option Addr} {B : Heap} {sI s : Shared} (D : Ends), Got X pins σ H a cls d B sI s → w D cls d σ H →
  wpAny (model X.prog X.w) X.A (handleBy (.ref a) X.env hds) (SP X pins D) X.xe s
def wCl (K : PySem.W.Frag) (c : Value) (u : SU) (w : WD) : WD := fun D cls d σ H => ∃ hit, PySem.W.exmOne K cls c = some hit ∧ (hit = true → ∀ a, H a = none → u a cls d D σ H) ∧ (hit = false → w D cls d σ H)
/-- except .. as n: n's slot holds the exception in the suite, and nothing behind it -/
def uAs (i : Nat) (u : SU) : SU := fun a cls d D σ H => u a cls d ⟨fun σ' H' => D.nx (σ'.set i none) H', D.rt, fun σ' H' => D.bk (σ'.set i none) H', fun σ' H' => D.ct (σ'.set i none) H'⟩ (σ.set i (some (.ref a))) H
theorem hds_nil {Wout : WX} (hs : X.stack = X.env :: X.outer) (hf : X.env.frame = some X.env.locals) (tk : Takes X Wout) : Hds X [] fun _ => Wout := ⟨fun {pins σ H a cls d B sI s} D G w => by
  refine wpAny_handleBy_nil ?_
  have go : wpAny (model X.prog X.w) X.A (setFlight (.ref a) X.env.frame) (fun _ s2 => wpAny (model X.prog X.w) X.A (throw (.ref a) : Sem Flow) (SP X pins D) X.xe s2) X.xe s := by
    rw [hf]
    refine HandSPX.setFlight_upZ G.fly fun h2 held u2 => wpAny_throw (tk _ _ ⟨a, B, sI, pins, σ, H, cls, d, rfl, G.inv, G.gnd, G.slt.trans u2, ?_, G.non, G.oss, G.bar, w⟩)
    exact .inr (.inr (hs ▸ held))
  obtain ⟨_, _, _, o1, vs1, T, _, _, g1, _, g2, g3, _⟩ := G.fly
  unfold PySem.passOn
  refine wpAny_bind (wpAny_field g1 g2 g3 ?_)
  have ne : ¬ (Value.ref T == Value.none) = true := by simp
  rw [if_neg ne]
  first
    | exact wpAny_bind (wpAny_pure (wpAny_bind go))
    | exact wpAny_bind go⟩
/-- the name of a clause is read in the frame that has caught -/
theorem Got.test (hf : X.env.frame = some X.env.locals) {x : Str} {np : Pos} {c : Value} (hc : Names X x c) (G : Got X pins σ H a cls d B sI s) {Q E : Value → Shared → Prop} (q : Q c s) : wpAny (model X.prog X.w) (X.A.mark (some (.ref a))) (eval (.Name x np) X.env) Q E s := by
  obtain ⟨oe, _, _, _, _, J⟩ := G.sui hf
  obtain ⟨n1, n2, n3⟩ := hc
  rcases n3 with n3 | ⟨n3, n4, n5⟩
  · exact ld_glob (X := X.suite a ((a, oe) :: (X.pn ++ pins))) J n1 n3 q n2
  · exact ld_blt (X := X.suite a ((a, oe) :: (X.pn ++ pins))) J n1 n3 n4 q n5 n2
/-- how a suite is known -/
def SuOk (X : Cx) (body : List Stmt) (u : SU) : Prop := ∀ (a : Addr) (oe : Obj) (cls : Value) (d : Option Addr) (pn : List (Addr × Obj)), Zc cls d oe → (∃ vs, oe.data = .fields vs) → PSs (X.suite a ((a, oe) :: pn)) body (u a cls d)
theorem hds_one {x : Str} {np pos : Pos} {c : Value} {nm : Option Str} {b0 : Stmt} {bs : List Stmt} {hds : List ExceptHandler} {w : WD} {u : SU} (hf : X.env.frame = some X.env.locals) (hc : Names X x c) (r : Hds X hds w)
    (hit : ∀ {pins : List (Addr × Obj)} {σ : L2.St} {H : Hp} {a : Addr} {cls : Value} {d : Option Addr} {B : Heap} {sI s : Shared} (D : Ends), Got X pins σ H a cls d B sI s → u a cls d D σ H →
      codeAny (model X.prog X.w) (X.A.mark (some (.ref a))) (.handlers (.ref a) [.ExceptHandler none nm (b0 :: bs) pos] X.env) (fun r s2 => match r with
        | .ok f => (match nm with
          | none => SP X pins D f s2
          | some n => wpAny (model X.prog X.w) X.A (do bindName X.env n .none; unbindBehindTheSuite X.env n pos) (fun _ s3 => SP X pins D f s3) X.xe s2)
        | .error y => cameBackBy (model X.prog X.w) X.A X.env X.xe y s2) s) : Hds X (.ExceptHandler (some (.Name x np)) nm (b0 :: bs) pos :: hds) (wCl X.K c u w) := ⟨fun {pins σ H a cls d B sI s} D G hw => by
  obtain ⟨b, e, yes, no⟩ := hw
  obtain ⟨oe, vs, g1, g2, g3, J⟩ := G.sui hf
  refine wpAny_handleBy_cons (codeAny_handlers_test (G.test hf hc ?_)) nofun
  have ty : PySem.W.Looks (model X.prog X.w) s.heap (typeOf (.ref a)) cls := fun _ _ _ _ kp q => wpAny_typeOf_ref (kp _ _ g1) (g2.1.symm ▸ q)
  refine (PySem.W.exm_one (M := model X.prog X.w) G.here.kIn ty e).here ?_
  cases b with
  | true => exact hit D G (yes rfl a G.non)
  | false => exact r.run D G (no rfl)⟩
theorem hds_plain {x : Str} {np pos : Pos} {c : Value} {b0 : Stmt} {bs : List Stmt} {hds : List ExceptHandler} {w : WD} {u : SU} (hf : X.env.frame = some X.env.locals) (hc : Names X x c) (hu : SuOk X (b0 :: bs) u) (r : Hds X hds w) :
    Hds X (.ExceptHandler (some (.Name x np)) none (b0 :: bs) pos :: hds) (wCl X.K c u w) := hds_one hf hc r fun {pins σ H a cls d B sI s} D G q => by
  have ok := G.inv.ok
  refine codeAny_handlers_suite (HandSPX.lands_againZ G.fly fun h2 f2 u2 => ?_)
  obtain ⟨oe, vs, g1, g2, g3, J⟩ := (G.step f2 u2).sui hf
  refine wpAny_mono ((hu a oe cls d _ g2 ⟨_, g3⟩).run [] _ _ H _ J q) (fun f s6 z => ?_) fun _ _ z => False.elim z
  cases f with
  | ret v =>
    obtain ⟨v', σ', H', J', rv, q'⟩ := z
    exact ⟨v', σ', H', Inv.unsuite J' ok, rv, q'⟩
  | next | brk | cont =>
    obtain ⟨σ', H', J', q'⟩ := z
    exact ⟨σ', H', Inv.unsuite J' ok, q'⟩
theorem hds_as {x n : Str} {np pos : Pos} {c : Value} {i : Nat} {b0 : Stmt} {bs : List Stmt} {hds : List ExceptHandler} {w : WD} {u : SU} (hf : X.env.frame = some X.env.locals) (hN : X.N.Nodup) (hi : X.N[i]? = some n) (hl : X.env.kindOf n = some .local) (hc : Names X x c) (hu : SuOk X (b0 :: bs) u) (r : Hds X hds w) :
    Hds X (.ExceptHandler (some (.Name x np)) (some n) (b0 :: bs) pos :: hds) (wCl X.K c (uAs i u) w) := hds_one hf hc r fun {pins σ H a cls d B sI s} D G q => by
  have ok := G.inv.ok
  refine codeAny_handlers_suite_as (HandSPX.lands_againZ G.fly fun h2 f2 u2 => ?_)
  obtain ⟨oe, vs, g1, g2, g3, J⟩ := (G.step f2 u2).sui hf
  refine store_ok (X := X.suite a ((a, oe) :: (X.pn ++ pins))) (v := .ref a) J hN hi (.inl hl) rfl (fun s3 J3 => ?_) (.inr hl)
  refine wpAny_mono ((hu a oe cls d _ g2 ⟨_, g3⟩).run [] s3 _ H _ J3 q) (fun f s6 z => ?_) fun _ _ z => False.elim z
  cases f with
  | ret v =>
    obtain ⟨v', σ', H', J', rv, q'⟩ := z
    exact gone_ok (Inv.unsuite J' ok) hN hi hl fun s7 J7 => ⟨v', _, H', J7, rv, q'⟩
  | next | brk | cont =>
    obtain ⟨σ', H', J', q'⟩ := z
    exact gone_ok (Inv.unsuite J' ok) hN hi hl fun s7 J7 => ⟨_, H', J7, q'⟩
def tTryW (w : WD) (tb : WX → TS) : TS := fun D σ H => tb (w D) D σ H
theorem ps_tryW {body : List Stmt} {h0 : ExceptHandler} {hds : List ExceptHandler} {pos : Pos} {w : WD} {tb : WX → TS} (hs : X.stack = X.env :: X.outer) (hf : X.env.frame = some X.env.locals)
    (hb : ∀ (W : WX) (pn : List (Addr × Obj)) (xe : Value → Shared → Prop), Takes (X.tr pn xe) W → PassesOwn (model X.prog X.w) X.A X.env xe → PSs (X.tr pn xe) body (tb W)) (hh : Hds X (h0 :: hds) w) : PS X (.Try body (h0 :: hds) [] [] pos) (tTryW w tb) := by
  constructor
  intro pins s σ H D I h
  have ok := I.ok
  have hfr : X.A.frames = some (X.env :: X.outer) := ok.frames.trans (congrArg some hs)
  refine wpAny_Try_except (wpAny_mono ((hb (w D) (X.pn ++ pins) (fun e s1 => wpAny (model X.prog X.w) X.A (noteFrame e X.env) (fun _ s2 => wpAny (model X.prog X.w) X.A (setFlight e none) (fun _ s3 =>
    wpAny (model X.prog X.w) X.A (handleBy e X.env (h0 :: hds)) (SP X pins D) X.xe s3) X.xe s2) X.xe s1) ?tk PassesOwn.looking).run [] s σ H D (I.toTry _) h) (fun f s1 z => ?_) fun _ _ z => z)
  case tk =>
    rintro _ s' ⟨a, B, sI, pins', σ', H', cls, d, rfl, J, nb, up, sky, na, os, ag, hw⟩
    refine Sky.land Zc.steady hfr hf (hs ▸ sky) fun h3 fl up3 => ?_
    exact hh.run D (sI := sI) (B := B) (Got.mk (Inv.ofTry J ok) nb (up.trans up3) fl na os ag) hw
  cases f with
  | next =>
    obtain ⟨σ', H', J', q⟩ := z
    exact wpAny_execs_nil ⟨σ', H', Inv.ofTry J' ok, q⟩
  | ret v =>
    obtain ⟨v', σ', H', J', rv, q⟩ := z
    exact ⟨v', σ', H', Inv.ofTry J' ok, rv, q⟩
  | brk | cont =>
    obtain ⟨σ', H', J', q⟩ := z
    exact ⟨σ', H', Inv.ofTry J' ok, q⟩
end
/-! what is drawn of it -/
section
variable {F : Fm} {ks : List Kd} {E : Ends}
theorem run_tryW {w : WD} {tb : WX → TS} (h : ∀ W, W = w E → Run F ks (tb W) E) : Run F ks (tTryW w tb) E := h _ rfl
theorem rs_tryW {w : WD} {tb : WX → TS} {u : TS} (h : ∀ W, W = w { E with nx := u E } → Run F ks (tb W) { E with nx := u E }) : Run F ks (tSeq (tTryW w tb) u) E := h _ rfl
/-- z goes into the first clause -/
theorem out_hit {c : Value} {u : SU} {w : WD} {W : WX} {z : Ex} (hW : W = wCl F.K c u w E) (hx : PySem.W.exmOne F.K (.ref z.cls) c = some true) (h : ∀ M σ H d, Ok F ks M σ H → ExAt F.K (hid M H) (.ref z.cls) d z → ∀ a, H a = none → u a (.ref z.cls) d E σ H) : Out F ks W z := fun M σ H cls d o e => by
  subst hW
  have e2 := e.cls
  subst e2
  exact ⟨true, hx, fun _ a na => h M σ H d o e a na, nofun⟩
/-- z goes on to the next clause -/
theorem out_miss {c : Value} {u : SU} {w : WD} {W : WX} {z : Ex} (hW : W = wCl F.K c u w E) (hx : PySem.W.exmOne F.K (.ref z.cls) c = some false) (h : Out F ks (w E) z) : Out F ks W z := fun M σ H cls d o e => by
  subst hW
  refine ⟨false, by rw [e.cls]; exact hx, nofun, fun _ => h M σ H cls d o e⟩
theorem out_hitR {c : Value} {u : SU} {w : WD} {W : WX} {z : Ex} (hW : W = wCl F.K c u w E) (hx : PySem.W.exmOne F.K (.ref z.cls) c = some true) (h : ∀ a d, Run F ks (u a (.ref z.cls) d) E) : Out F ks W z := out_hit hW hx fun M σ H d o _ a _ => h a d M σ H o
end
end Dl
set_option Elab.async false
set_option linter.all false
set_option maxRecDepth 100000
set_option maxHeartbeats 2000000
/-! RefInit: an own exception whose __init__ says super().__init__(x); self.f = x. -/
namespace Dl
open PySem PySem.Spec PyProof.Rows PySem.Calls PySem.W L2
section
variable {CX : CXT} {P : Program} {w : World} {K : PySem.W.Frag} {mg : Str → Option Value} {base : Heap}
/-- the context of a def that closes over __class__ -/
def cxF (CX : CXT) (P : Program) (w : World) (K : PySem.W.Frag) (mg : Str → Option Value) (base : Heap) (N : List Str) (qual : Str) (scope : Scope) (f cc : Addr) (cd : Value) (A : Around) (outer : List Env) (s : Shared) (H : Hp) (E : XK) : Cx where
  prog := P
  w := w
  K := K
  mg := mg
  base := base
  A := A.deeper (ksEnv qual scope s.heap.objs.size f cd cc)
  N := N
  s_0 := s
  H_0 := H
  env := ksEnv qual scope s.heap.objs.size f cd cc
  outer := outer
  stack := ksEnv qual scope s.heap.objs.size f cd cc :: outer
  ex := []
  calm := true
  fn := fun _ => false
  pn := []
  xe := fun e s' => wpAny (model P w) (A.deeper (ksEnv qual scope s.heap.objs.size f cd cc)) (leaving (ksEnv qual scope s.heap.objs.size f cd cc) e) (fun _ s'' => CX outer H s E e s'') (fun e' s'' => CX outer H s E e' s'') s'
theorem inv_F {qual : Str} {scope : Scope} {f cc D : Addr} {cd : Value} {A : Around} {outer : List Env} {s : Shared} {H : Hp} {E : XK} {h0 : Heap} {tk : Nat} {x y : Str} {u0 u1 : Value} {v0 v1 : V}
    (hd : A.handled = none) (e0 : Env0 P w K mg base A outer s H) (hk : scope.kind = .function) (hx : scope.names.lookup x = some .local) (hy : scope.names.lookup y = some .local) (hxy : x ≠ y)
    (hcf : ∀ z, scope.names.lookup z = some .cell ∨ scope.names.lookup z = some .free → z = "__class__") {oc : Obj} (hcell : K.lookup cc = some oc) (hoc : oc.data = .cell (some (.ref D)))
    (hns : h0.Ns s.heap.objs.size (fun z => [(x, u0), (y, u1)].reverse.lookup z)) (keep : ∀ b o, s.heap.get? b = some o → h0.get? b = some o) (r0 : RelV v0 u0) (r1 : RelV v1 u1) :
    Inv (cxF CX P w K mg base [x, y] qual scope f cc cd A outer s H E) [] [some v0, some v1] H { s with heap := h0, toks := tk } := by
  have noA : ∀ b : Addr, b ∉ (cxF CX P w K mg base [x, y] qual scope f cc cd A outer s H E).ex := fun b z => absurd (show b ∈ ([] : List Addr) from z) (by simp)
  have cl : ∀ z c, ([(("__class__" : Str), cc)] : List (Str × Addr)).lookup z = some c → z = "__class__" ∧ c = cc := fun z c h => by
    unfold List.lookup at h
    cases e : (z == ("__class__" : Str)) with
    | true =>
      rw [e] at h
      exact ⟨by simpa using e, by cases h; rfl⟩
    | false =>
      rw [e] at h
      cases h
  have hb : base.get? cc = some oc := e0.mod.kin _ _ hcell
  refine ⟨⟨e0.mod, hk, rfl, rfl, Nat.le_refl _, fun a b c h1 h2 => (cl a c h1).1.trans (cl b c h2).1.symm, fun z hz => ⟨cc, by rw [hcf z hz]; rfl⟩, fun a c h => (by cases h), fun _ => hd, Around.frames_deeper e0.frames, .inr ⟨rfl, rfl⟩, fun b z => absurd z (noA b), e0.bs, e0.bsz, fun b _ _ => noA b, fun b z => absurd z (noA b), e0.funs, e0.frf⟩,
    rfl, e0.bare, Un.kept keep, ⟨_, hns, fun i z v h1 h2 _ => ?_⟩, fun z c h => ?_, e0.hok.fresh (Nat.le_refl _), fun z c h => ?_, fun p hp => absurd (show p ∈ ([] : List (Addr × Obj)) from hp) (by simp), e0.hok.kept keep, rfl⟩
  · match i, h1, h2 with
    | 0, h1, h2 =>
      cases h1
      cases h2
      refine ⟨u0, r0, .inl ⟨hx, ?_⟩⟩
      show [(y, u1), (x, u0)].lookup x = some u0
      have e : (x == y) = false := by simpa using hxy
      simp [List.lookup, e]
    | 1, h1, h2 =>
      cases h1
      cases h2
      refine ⟨u1, r1, .inl ⟨hy, ?_⟩⟩
      show [(y, u1), (x, u0)].lookup y = some u1
      simp [List.lookup]
    | i + 2, h1, _ => cases h1
  · obtain ⟨_, rfl⟩ := cl z c h
    exact ⟨_, oc, keep _ _ (e0.bs _ _ hb).1, hoc⟩
  · obtain ⟨_, rfl⟩ := cl z c h
    exact (e0.bs _ _ hb).2
/-- what the written part says of such a class C, its __init__ f, the cell cc of its __class__ -/
structure SupT (P : Program) (K : PySem.W.Frag) (mg : Str → Option Value) (C f cc cda : Addr) (fd : FuncData) (x : Str) : Prop where
  oex : L2.OexC K C
  cell : ∃ cl cld csl, K.lookup cc = some ⟨cl, cld, .cell (some (.ref C)), csl⟩
  fn : ∃ oc od osl, K.lookup f = some ⟨oc, od, .func fd, osl⟩
  par : ∃ ar : Arg, (fd.params.posonlyargs ++ fd.params.args).head? = some ar ∧ ar.arg = x
  code : ∃ ccl cdd vs ccs file tf, K.lookup cda = some ⟨ccl, cdd, .fields vs, ccs⟩ ∧ vs[2]? = some (.str file tf) ∧ ((P.main.file : Str) == file) = true
  cls : ∃ cd, clsIn K C = some cd
  mro : mroIn K C (.ref C) = some true
  sup : ks_superIn K C C "__init__" = some (some (.builtin "ValueError.__init__"))
  sub : subIn K (.ref C) (.type "ValueError") = some true
  opq : nsIn K cStatics "thirdparty.any" = some none
  mgS : mg "super" = none
  top : (P.main.scope.names.lookup ("super" : Str)).isSome = false
/-- super().__init__(y) -/
theorem superI {qual : Str} {scope : Scope} {f cc C cda a : Addr} {A : Around} {outer : List Env} {s0 s : Shared} {H0 H : Hp} {E : XK} {fd : FuncData} {x y : Str} {v1 : V} {body : List Stmt} {p0 p1 p2 p3 p4 p5 : Pos}
    (T : SupT P K mg C f cc cda fd x) (hk : scope.kind = .function) (hks : scope.names.lookup ("super" : Str) = some .globalImplicit) (hkc : scope.names.lookup ("__class__" : Str) = some .free) (hx : scope.names.lookup x = some .local) (hy : scope.names.lookup y = some .local)
    (I : Inv (cxF CX P w K mg base [x, y] qual scope f cc (.ref cda) A outer s0 H0 E) [] [some (.ref a), some v1] H s) (ea : H a = some (L2.exo a C none)) {Q : Flow → Shared → Prop} {E2 : Value → Shared → Prop}
    (hyd : (y == ("__debug__" : Str)) = false) {pl : Sem Bool} (hi : interactive (ksEnv qual scope s0.heap.objs.size f (.ref cda) cc) = false) (hs : swapsWith (.Call (.Attribute (.Call (.Name "super" p0) [] [] p1) "__init__" p2) [.Name y p3] [] p4) none p5.line (ksEnv qual scope s0.heap.objs.size f (.ref cda) cc) = pure false)
    (he : eval (.Call (.Attribute (.Call (.Name "super" p0) [] [] p1) "__init__" p2) [.Name y p3] [] p4) (ksEnv qual scope s0.heap.objs.size f (.ref cda) cc) = (do
      let ov ← attributeBase (.Call (.Name "super" p0) [] [] p1) "__init__" (ksEnv qual scope s0.heap.objs.size f (.ref cda) cc) (eval (.Call (.Name "super" p0) [] [] p1) (ksEnv qual scope s0.heap.objs.size f (.ref cda) cc))
      standAt p2.atName
      let (g, first) ← holding [ov] (getMethod ov "__init__" pl)
      callWith p4 g first (backTo p4 (starEach [.Name y p3] (ksEnv qual scope s0.heap.objs.size f (.ref cda) cc))) []))
    (h : ∀ s', Inv (cxF CX P w K mg base [x, y] qual scope f cc (.ref cda) A outer s0 H0 E) [] [some (.ref a), some v1] H s' → Q .next s') :
    _root_.PySem.wpAt (model P w) (A.deeper (ksEnv qual scope s0.heap.objs.size f (.ref cda) cc)) (.func body (ksEnv qual scope s0.heap.objs.size f (.ref cda) cc)) (exec (.Expr (.Call (.Attribute (.Call (.Name "super" p0) [] [] p1) "__init__" p2) [.Name y p3] [] p4) p5) (ksEnv qual scope s0.heap.objs.size f (.ref cda) cc)) Q E2 s := by
  obtain ⟨cl, cld, csl, hcell⟩ := T.cell
  obtain ⟨oc, od, osl, hf⟩ := T.fn
  obtain ⟨ar, hp, har⟩ := T.par
  obtain ⟨ccl, cdd, vs, ccs, file, tf, hcode, hvs, hfile⟩ := T.code
  obtain ⟨cd, hcd⟩ := T.cls
  have KX := I.kIn
  obtain ⟨t1, ho⟩ := L2.exo_at I.hok ea
  obtain ⟨mb, hmb, hbl⟩ := I.mod.blt
  obtain ⟨oD, hD1, hD2⟩ : ∃ oD, s.heap.get? C = some oD ∧ oD.data = .cls cd := by
    unfold clsIn at hcd
    split at hcd
    · rename_i c d cd' sl ho
      cases hcd
      exact ⟨_, KX _ _ ho, rfl⟩
    · cases hcd
  obtain ⟨hh, g, d, t, os⟩ := s
  refine ks_wpAt_Expr_any (ks_wpAt_MethodCall ?_ he) hi hs
  refine ks_wpAt_super_base (env := ksEnv qual scope s0.heap.objs.size f (.ref cda) cc) hks hkc rfl rfl (KX _ _ hf) rfl hp rfl (KX _ _ hcode) rfl hvs hfile T.top ?_
  refine ks_loadName_global hk hks (loadGlobal_builtin (env := ksEnv qual scope s0.heap.objs.size f (.ref cda) cc) (I.mod.glob.keeps I.bk) T.mgS (hmb.keeps I.bk) ((hbl "super" (by decide)).trans (by decide +kernel)) ⟨rfl, ?_⟩)
  refine wpAny_loadName_free hk hkc rfl ⟨_, KX _ _ hcell, rfl⟩ ?_
  obtain ⟨m, hm, look⟩ := I.loc
  have l0 : m x = some (.ref a) := by
    obtain ⟨u, r, hl⟩ := look 0 x (.ref a) rfl rfl (.inl hx)
    cases r
    rcases hl with ⟨_, hl⟩ | ⟨hz, _⟩
    · exact hl
    · have hz' : scope.names.lookup x = some .cell ∨ scope.names.lookup x = some .free := hz
      rw [hx] at hz'
      rcases hz' with z | z <;> cases z
  rw [har]
  refine wpAny_loadName_local hk hx hm l0 ?_
  refine ks_wpAny_isType_cls hD1 hD2 ⟨rfl, ?_⟩
  refine ks_wpAny_call_super hD1 hD2 ho rfl (fun c e => by cases e) (looks_mroIn KX T.mro) fun h' e k => ?_
  -- the super object stands
  have I1 := I.kept (t' := t) k
  have KX1 := I1.kIn
  have ho1 := k _ _ ho
  cases hcd2 : clsIn K C with
  | none => rw [hcd2] at hcd; cases hcd
  | some cd2 =>
  have hsup := T.sup
  unfold ks_superIn at hsup
  rw [hcd2] at hsup
  have It : InstAt h' a _ C none := ⟨ho1, rfl, rfl, trivial⟩
  have hIs : Looks (model P w) h' (isInstance (.ref a) (.type "ValueError")) true := It.type.andThen (looks_subIn KX1 T.sub)
  refine kxs_getMethod kxs_ValueError e (looks_opaque KX1 T.opq) (l₀ := cd2.mro) ?_ rfl KX1 hsup hIs (ks_ne KX1 It hcd2) rfl ?_
  · exact fun A Q E s k q => wpAny_bind ((looks_clsIn KX1 hcd2) A _ E s k (wpAny_pure q))
  have k2 : ∀ b o, h'.get? b = some o → (h'.push (kxs_mw "ValueError.__init__" a)).get? b = some o := fun b o e => Heap.get?_push_of_some _ e
  have I2 := I1.kept (t' := t + 1) k2
  have hu : (h'.push (kxs_mw "ValueError.__init__" a)).get? h'.objs.size = some (kxs_mw "ValueError.__init__" a) := Heap.get?_push_at rfl rfl
  have KX2 := I2.kIn
  obtain ⟨m2, hm2, look2⟩ := I2.loc
  obtain ⟨u1, ru, hl1⟩ := look2 1 y v1 rfl rfl (.inl hy)
  have l1 : m2 y = some u1 := by
    rcases hl1 with ⟨_, hl⟩ | ⟨hz, _⟩
    · exact hl
    · have hz' : scope.names.lookup y = some .cell ∨ scope.names.lookup y = some .free := hz
      rw [hy] at hz'
      rcases hz' with z | z <;> cases z
  refine kxs_callWith (i := "ValueError.__init__") (x := a) rfl (evalArgs_plain ?_)
  refine spliced_more (env := ksEnv qual scope s0.heap.objs.size f (.ref cda) cc) (rest := []) (wpAny_Name (env := ksEnv qual scope s0.heap.objs.size f (.ref cda) cc) (wpAny_loadName_local (env := ksEnv qual scope s0.heap.objs.size f (.ref cda) cc) hk hy hm2 l1 (spliced_none ⟨?_, ?_⟩)) hyd)
  · exact hu
  obtain ⟨nm, q2, N2, bs, bm, sn, sub, ab, col, dd, k0, k1, k2', k3, k5, hC, hbm⟩ := T.oex.cls
  have hC2 := KX2 _ _ hC
  have ho2 := k2 _ _ ho1
  refine wpAny_call (codeAny_of_tree ?_)
  show wpAny _ _ (callAny (.ref h'.objs.size) ⟨[u1], []⟩) _ _ _
  simp only [callAny]
  refine wpAny_bind (wpAny_load hu ?_)
  simp only [kxs_mw, show (Value.type "method-wrapper" == Value.type "method" || Value.type "method-wrapper" == Value.type "builtin_function_or_method" || Value.type "method-wrapper" == Value.type "method-wrapper") = true by decide, if_true]
  refine KFB.if_so (by decide) ?_
  refine wpAny_bind (check_bound_init PySem.F.excBase_ValueError.toExcCallFacts hC2 ho2 rfl ?_)
  refine wpAny_bind (wpAny_pure (wpAny_pure ?_))
  refine ⟨plainId_quiet PySem.F.excBase_ValueError.init.plain _, codeAny_builtin PySem.F.excBase_ValueError.initEntry ?_⟩
  refine exc_init_tree (cls := .ref C) (t0 := t1) (dv := none) (c2 := .none) (c3 := .none) (b4 := .bool false) ho2 (sz (by simp)) fun h3 hk3 hx3 ht3 => ?_
  have J := I2.write (t' := t + 1) (x := a) (e := a) (o := L2.exo a C none) (by rw [ea]; exact True.intro) (.inl rfl) hk3 ⟨_, hx3⟩ (L2.exo_ok hx3)
  have eu : upd H a (L2.exo a C none) = H := by
    funext b
    by_cases hb : b = a
    · rw [hb, upd_same, ea]
    · rw [upd_ne hb]
  rw [eu] at J
  exact h _ J
/-- the promise of __init__: the field is set, the exception has its dict -/
def spRef (K : PySem.W.Frag) (C : Addr) (fld : Str) : Sp := fun vs H Q _ => ∃ (a : Addr) (v : V), vs = [.ref a, v] ∧ H a = some (L2.exo a C none) ∧ L2.OexC K C ∧ findIn K (.ref C) fld = some none ∧ ∀ dx, H dx = none → dx ≠ a → Q .non (upd (upd H dx (L2.exd dx [(fld, v)])) a (L2.exo a C (some dx)))
theorem fnOk_ref {k : Nat} {f cc C cda : Addr} {name qual x y fld : Str} {params : Arguments} {scope : Scope} {dV kV doc pm ct : Value} {an : Option Addr} {p0 p1 p2 p3 p4 p5 p6 p7 p8 p9 : Pos}
    (T : SupT P K mg C f cc cda (ksFn name qual params [.Expr (.Call (.Attribute (.Call (.Name "super" p0) [] [] p1) "__init__" p2) [.Name y p3] [] p4) p5, .Assign [.Attribute (.Name x p6) fld p7] (.Name y p8) p9] scope dV kV doc pm an (.ref cda) ct cc) x)
    (hcd : codeIn K (.ref cda) qual = true) (hk : scope.kind = .function) (hco : scope.isCoroutine = false) (hgen : scope.isGenerator = false) (hks : scope.names.lookup ("super" : Str) = some .globalImplicit) (hkc : scope.names.lookup ("__class__" : Str) = some .free) (hx : scope.names.lookup x = some .local) (hy : scope.names.lookup y = some .local) (hxy : x ≠ y)
    (hcell : ∀ z ∈ scope.names, z.2 ≠ .cell) (hcf : ∀ z, scope.names.lookup z = some .cell ∨ scope.names.lookup z = some .free → z = "__class__") (hxd : (x == ("__debug__" : Str)) = false) (hyd : (y == ("__debug__" : Str)) = false) (hxc : (x == ("__classdict__" : Str)) = false) (hyc : (y == ("__classdict__" : Str)) = false) {pl : Sem Bool}
    (hi : ∀ L, interactive (ksEnv qual scope L f (.ref cda) cc) = false) (hs : ∀ L, swapsWith (.Call (.Attribute (.Call (.Name "super" p0) [] [] p1) "__init__" p2) [.Name y p3] [] p4) none p5.line (ksEnv qual scope L f (.ref cda) cc) = pure false)
    (he : ∀ L, eval (.Call (.Attribute (.Call (.Name "super" p0) [] [] p1) "__init__" p2) [.Name y p3] [] p4) (ksEnv qual scope L f (.ref cda) cc) = (do
      let ov ← attributeBase (.Call (.Name "super" p0) [] [] p1) "__init__" (ksEnv qual scope L f (.ref cda) cc) (eval (.Call (.Name "super" p0) [] [] p1) (ksEnv qual scope L f (.ref cda) cc))
      standAt p2.atName
      let (g, first) ← holding [ov] (getMethod ov "__init__" pl)
      callWith p4 g first (backTo p4 (starEach [.Name y p3] (ksEnv qual scope L f (.ref cda) cc))) []))
    (hs2 : ∀ L, swapsWith (.Name y p8) (some (.Attribute (.Name x p6) fld p7)) p9.line (ksEnv qual scope L f (.ref cda) cc) = pure false) :
    FnOk P w K mg base CX (k + 1) f (ksFn name qual params [.Expr (.Call (.Attribute (.Call (.Name "super" p0) [] [] p1) "__init__" p2) [.Name y p3] [] p4) p5, .Assign [.Attribute (.Name x p6) fld p7] (.Name y p8) p9] scope dV kV doc pm an (.ref cda) ct cc) [x, y] (spRef K C fld) := by
  refine ⟨fun vs H Q E ⟨_, _, e, _⟩ => by rw [e]; rfl, fun A outer s H args us vs Q E hr e0 hb r hsp => ?_⟩
  obtain ⟨a, v, rfl, ea, oex, hno, q⟩ := hsp
  obtain ⟨cl, cld, csl, hcell2⟩ := T.cell
  obtain ⟨oc, od, osl, lk⟩ := T.fn
  cases r with
  | @cons _ u0 _ us1 r0 rs =>
  cases rs with
  | @cons _ u1 _ us2 r1 rn =>
  cases rn
  obtain rfl : u0 = .ref a := r0
  have KX : K.In s.heap := e0.mod.kin.keeps fun b o e => (e0.bs b o e).1
  have lim : s.heap.NoLimit := e0.mod.nolimit.keeps fun b o e => (e0.bs b o e).1
  refine ks_codeAny_call_defAt hr.depth (KX _ _ lk) rfl lim (codeRec_of KX hcd) rfl hb hcell (fun z hz => ?_) (fun h₁ hns hk₁ => ?_) hco hgen hk
  · rcases List.mem_cons.mp hz with rfl | hz
    · exact hx
    · rw [List.mem_singleton.mp hz]; exact hy
  have I0 := inv_F (CX := CX) (E := E) (tk := s.toks + [(x, Value.ref a), (y, u1)].length) (qual := qual) (f := f) (cd := .ref cda) hr.hd e0 hk hx hy hxy hcf hcell2 rfl hns hk₁ (v0 := .ref a) rfl r1
  refine ks_wpAt_execs_cons (superI T hk hks hkc hx hy I0 ea hyd (hi _) (hs _) (he _) fun s' I' => ?_)
  have ht : PSs (cxF CX P w K mg base [x, y] qual scope f cc (.ref cda) A outer s H E) [.Assign [.Attribute (.Name x p6) fld p7] (.Name y p8) p9] (tOst K fld (tVar 0) (tVar 1)) := pss_one (ps_ost (pv 0 rfl (Or.inl hx) hxd hxc) (pv 1 rfl (Or.inl hy) hyd hyc) (hs2 _))
  refine wpAt_of_wpAny (wpAny_mono (ht.run [] s' [some (.ref a), some v] H { nx := fun _ H' => Q .non H', rt := Q } I' ⟨v, rfl, .ref a, rfl, a, _, rfl, oex, hno, .inl ⟨ea, q⟩⟩) (fun fl s2 hs => ?_) fun e s2 hs => hs)
  have fin : ∀ {σ' : L2.St} {H' : Hp} {v : V} {u : Value}, Inv (cxF CX P w K mg base [x, y] qual scope f cc (.ref cda) A outer s H E) [] σ' H' s2 → RelV v u → Q v H' → CE outer P w H s Q u s2 :=
    fun {σ' H' v u} J rv q => ⟨v, H', J.os, J.bare, J.base, J.hok, rv, q⟩
  cases fl with
  | ret u =>
    obtain ⟨v, σ', H', J, rv, q⟩ := hs
    exact fin J rv q
  | next =>
    obtain ⟨σ', H', J, q⟩ := hs
    exact fin (v := V.non) (u := Value.none) J rfl q
  | brk =>
    obtain ⟨_, _, _, q⟩ := hs
    exact False.elim q
  | cont =>
    obtain ⟨_, _, _, q⟩ := hs
    exact False.elim q
end
end Dl
set_option Elab.async false
set_option linter.all false
set_option maxRecDepth 100000
set_option maxHeartbeats 2000000
/-! RefDef: raise X('..'), X an own class whose __init__ sets a field. -/
namespace Dl
open PySem PySem.Spec PyProof.Rows L2
/-- the class x, its __init__ walked -/
structure RefX (P : Program) (w : World) (K : PySem.W.Frag) (mg : Str → Option Value) (base : Heap) (x fld : Str) (k : Nat) : Prop where
  oex : L2.OexC K (clsA K x)
  g : mg x = some (.ref (clsA K x))
  no : PySem.W.findIn K (.ref (clsA K x)) fld = some none
  ini : ∃ fI fd ps, PySem.W.findIn K (.ref (clsA K x)) "__init__" = some (some (.ref fI)) ∧ PySem.W.typeIn K (.ref fI) = some (.type "function") ∧ FnOk P w K mg base (L2.CX P w) k fI fd ps (spRef K (clsA K x) fld) ∧ Binds K fd ps []
theorem hcf_of {sc : Scope} (h : ∀ y ∈ sc.names, (y.2 = .cell ∨ y.2 = .free) → y.1 = "__class__") : ∀ z, sc.names.lookup z = some .cell ∨ sc.names.lookup z = some .free → z = "__class__" := fun z hz => by
  rcases hz with hz | hz
  · exact h _ (PySem.mem_of_lookup hz) (.inl rfl)
  · exact h _ (PySem.mem_of_lookup hz) (.inr rfl)
def tRaiseF (K : PySem.W.Frag) (C : Addr) (fld m : Str) (W : WX) : TS := fun _ σ H => tMkO C (spRef K C fld) [] (tCons (tC (.str m)) tNil) σ H fun cls d H' => W cls d σ H'
theorem ps_raiseF {X : Cx} {W : WX} {x fld m : Str} {k j : Nat} {p p2 pos pos2 : Pos} (T : RefX X.prog X.w X.K X.mg X.base x fld k) (hr : Room (k + 1) X.A) (hc : X.calm = true) (tk : Takes X W) (hg : Gl X x) (hdb : (x == ("__debug__" : Str)) = false := by decide) :
    PS X (.Raise (some (.Call (.Name x p) [.Constant (.str m) j p2] [] pos)) none pos2) (tRaiseF X.K (clsA X.K x) fld m W) := by
  obtain ⟨fI, fd, ps, h1, h2, h3, h4⟩ := T.ini
  exact ps_raise hc tk (pmk_oex T.oex h1 h2 h3 hr h4 .nil passL hg T.g (pa_cons pe_str pa_nil) hdb)
section
variable {F : Fm} {ks : List Kd} {E : Ends}
theorem run_raiseF {C : Addr} {fld m : Str} {W : WX} (oex : L2.OexC F.K C) (hno : PySem.W.findIn F.K (.ref C) fld = some none) (h : Out F ks W (.fl C [(fld, .str m)])) : Run F ks (tRaiseF F.K C fld m W) E := fun M σ H o => by
  refine ⟨by simp, fun a na => ⟨a, .str m, rfl, upd_same, oex, hno, fun dx nx hne => ⟨rfl, dx, [(fld, .str m)], upd_same, ?_, ?_, ?_⟩⟩⟩
  · rw [upd_ne hne, upd_same]
  · rw [upd_ne hne] at nx
    exact nx
  · have nx' : H dx = none := by rw [upd_ne hne] at nx; exact nx
    have e : upd (del (upd (upd (upd H a (exo a C none)) dx (exd dx [(fld, .str m)])) a (exo a C (some dx))) a) dx (.xd [(fld, .str m)]) = upd H dx (.xd [(fld, .str m)]) := by
      funext b
      by_cases q1 : b = dx
      · rw [q1, upd_same, upd_same]
      · rw [upd_ne q1, upd_ne q1]
        by_cases q2 : b = a
        · rw [q2, del_same, na]
        · rw [del_ne q2, upd_ne q2, upd_ne q1, upd_ne q2]
    rw [e]
    have sm : Same H (upd H dx (.xd [(fld, .str m)])) := same_new nx'
    refine h M σ _ _ _ (o.same sm) ⟨rfl, dx, _, rfl, ?_, .cons (.str m) .nil⟩
    rw [hid_out (o.fresh nx'), upd_same]
end
/-- what the written part says of Refused -/
structure RfB (K : PySem.W.Frag) (mg : Str → Option Value) : Prop where
  g : mg "Refused" = some (.ref (clsA K "Refused"))
  xf : L2.XfC K (clsA K "Refused")
  no : PySem.W.findIn K (.ref (clsA K "Refused")) "reason" = some none
  oex : L2.OexC K (clsA K "Refused")
  rr : PySem.W.exmOne K (.ref (clsA K "Refused")) (.ref (clsA K "Refused")) = some true
  rm : PySem.W.exmOne K (.ref (clsA K "Refused")) (.ref (clsA K "Malformed")) = some false
  mr : PySem.W.exmOne K (.ref (clsA K "Malformed")) (.ref (clsA K "Refused")) = some false
/-- Refused('m') in the air -/
def refE (K : PySem.W.Frag) (m : Str) : Ex := .fl (clsA K "Refused") [("reason", .str m)]
section
variable {F : Fm} {ks : List Kd} {E : Ends}
theorem run_raiseRf {m : Str} {W : WX} {mg : Str → Option Value} (h : RfB F.K mg) (o : Out F ks W (refE F.K m)) : Run F ks (tRaiseF F.K (clsA F.K "Refused") "reason" m W) E := run_raiseF h.oex h.no o
/-- return e.reason -/
theorem out_reasonP {m : Str} {i : Nat} {w : WD} {W : WX} {mg : Str → Option Value} {H0 : Hp} {M0 : List Addr} {Q : VK} {T : D → Prop} (h : RfB F.K mg) (hi : i < ks.length) (hW : W = wCl F.K (.ref (clsA F.K "Refused")) (uAs i fun a cls d => tRet (tXf a cls d (clsA F.K "Refused") "reason" (tVar i))) w E)
    (q : ∀ d v H', T d → Same H0 H' → At F.K (hid M0 H') v d → Q v H') (hb : Same H0 F.B) (hm : F.M0 = M0) (hE : E.rt = Q) (ht : T (.str m)) : Out F ks W (refE F.K m) := out_hit hW h.rr fun M σ H d o e a na => by
  obtain ⟨_, dd, gs, rfl, hd, hf⟩ := e
  have hi' : i < σ.length := by rw [o.len]; exact hi
  refine ⟨.ref a, ?_, rfl, rfl, dd, gs, ?_⟩
  · rw [List.getElem?_set_self hi']
  · cases hf with
    | cons hv hr =>
      refine ⟨_, rfl, (hid_some hd).2, List.lookup_cons_self, ?_⟩
      show E.rt _ H
      rw [hE]
      exact q (.str m) _ H ht (hb.trans o.base) (At.mono (hid_sub fun b hb => o.sup b (by rw [hm]; exact hb)) hv)
end
end Dl
set_option Elab.async false
set_option linter.all false
set_option maxRecDepth 100000
set_option maxHeartbeats 2000000
/-! RefMore: except suites that go on; an error's field in them. -/
namespace Dl
open PySem PySem.Spec PyProof.Rows L2
/-- a method of a builtin's, the written part told -/
theorem pe_bmK {X : Cx} (K : PySem.W.Frag) {T name id : String} {r : V → List V → Hp → VK → Prop} {o e : Expr} {es : List Expr} {apos cpos : Pos} {to : TE} {t : TA} (pa : PlainAttrs T) (slot : Slot T name id) (hty : typeOf (.builtin id) = pure (.type "method_descriptor")) (hm : MtR X id r) (ho : PE X o to) (ha : PA X (e :: es) t) (hK : X.K = K := by rfl)
    (hbase : attributeBase o name X.env (eval o X.env) = eval o X.env := by rfl) (hfew : ((backTo cpos (starEach (e :: es) X.env)).all (fun x => !x.1) && (backToKw cpos (keywordEach [] X.env)).all (fun x => x.1.isSome) && decide ((e :: es).length + ([] : List Keyword).length + (if ([] : List Keyword).isEmpty then 0 else 1) < 30)) = true := by rfl)
    (hline : (apos.endLine == cpos.line) = true := by rfl) (hs : starEach (e :: es) X.env = (false, eval e X.env) :: starEach es X.env := by rfl) (hplain : (backTo cpos (starEach es X.env)).any (·.1) = false := by rfl) : PE X (.Call (.Attribute o name apos) (e :: es) [] cpos) (tBM K T r to t) := by
  subst hK
  exact pe_bm pa slot hty hm ho ha hbase hfew hline hs hplain
section
variable {F : Fm} {ks : List Kd} {E : Ends}
theorem et_andR {t u : TT} {a : Bool} {R : Bool → Prop} (h1 : EvT F ks t a) (h2 : a = true → EvTR F ks u R) (h3 : a = false → R false) : EvTR F ks (tAnd t u) R := fun M σ H o Q q => h1 M σ H o _ fun c H1 o1 s1 e => by
  subst e
  cases c with
  | true =>
    show u σ H1 Q
    exact h2 rfl M σ H1 o1 Q fun c2 H2 o2 s2 e2 => q c2 H2 o2 (s1.trans s2) e2
  | false =>
    show Q false H1
    exact q false H1 o1 s1 (h3 rfl)
theorem rs_tryWJ {w : WD} {tb : WX → TS} {u : TS} (ks' : List Kd) (h : ∀ N : Sg → Hp → Prop, Cont F ks' N → ∀ W, W = w { E with nx := N } → Run F ks (tb W) { E with nx := N }) (c : Run F ks' u E) : Run F ks (tSeq (tTryW w tb) u) E := h (u E) c _ rfl
theorem cont_lift {B G : Hp} {N : Sg → Hp → Prop} (s : Sub F B G) (c : Cont F ks N) : Cont { F with B := B, G := G } ks N := fun M σ H o => c M σ H (o.lift s)
theorem cont_gone {i : Nat} {N : Sg → Hp → Prop} (c : Cont F (ks.set i .any) N) : Cont F ks fun σ H => N (σ.set i none) H := fun M σ H o => c M _ H o.setA
/-- err.f in a suite: err in slot i, its fields before one's eyes -/
theorem ev_xf {a dd C : Addr} {te : TE} {f : Str} {gs : List (Str × V)} {fs : List (Str × D)} {d : D} (h : Ev F ks te (.raw (.ref a))) (hG : F.G dd = some (.xd gs)) (hf : AtF F.K F.G gs fs) (hl : fs.lookup f = some d) : Ev F ks (tXf a (.ref C) (some dd) C f te) d := fun M σ H o Q q => h M σ H o _ fun v d1 H1 o1 s1 a1 e => by
  subst e
  cases a1
  obtain ⟨v, h1, h2⟩ := hf.lookup hl
  exact ⟨rfl, rfl, dd, gs, v, rfl, (hid_some (o1.vis _ _ hG)).2, h1, q v d H1 o1 s1 (At.mono o1.vis h2) rfl⟩
/-- z goes into a clause with a name: what the suite sees -/
theorem out_as {c : Value} {u : SU} {i : Nat} {w : WD} {W : WX} {C : Addr} {fs : List (Str × D)} (hW : W = wCl F.K c (uAs i u) w E) (hx : PySem.W.exmOne F.K (.ref C) c = some true)
    (h : ∀ (a dd : Addr) (gs : List (Str × V)) (B G : Hp), Sub F B G → G dd = some (.xd gs) → AtF F.K G gs fs → Run { F with B := B, G := G } (ks.set i (.dat (.raw (.ref a)))) (u a (.ref C) (some dd)) ⟨fun σ' H' => E.nx (σ'.set i none) H', E.rt, fun σ' H' => E.bk (σ'.set i none) H', fun σ' H' => E.ct (σ'.set i none) H'⟩) : Out F ks W (.fl C fs) := out_hit hW hx fun M σ H d o e a na => by
  obtain ⟨_, dd, gs, rfl, hd, hf⟩ := e
  obtain ⟨s, o2⟩ := o.tight
  exact h a dd gs _ _ s hd hf M _ H (o2.setD (.raw _))
/-- found.append(e.f) in a suite -/
theorem out_app {c : Value} {i : Nat} {w : WD} {W : WX} {C : Addr} {f m : Str} {E : Ends} {mt : TE → TS} {N : Sg → Hp → Prop} (hN : E.nx = N) (hi : i < ks.length) (hW : W = wCl F.K c (uAs i fun a cls d => mt (tXf a cls d C f (tVar i))) w E) (hx : PySem.W.exmOne F.K (.ref C) c = some true)
    (h : ∀ (B G : Hp) (te : TE) (N' : Sg → Hp → Prop) (a : Addr), (∀ ks' : List Kd, Cont F (ks'.set i .any) N → Cont { F with B := B, G := G } ks' N') → Ev { F with B := B, G := G } (ks.set i (.dat (.raw (.ref a)))) te (.str m) → ∀ E' : Ends, E'.nx = N' → Run { F with B := B, G := G } (ks.set i (.dat (.raw (.ref a)))) (mt te) E') : Out F ks W (.fl C [(f, .str m)]) := out_as hW hx fun a dd gs B G s hd hf => by
  refine h B G _ _ a (fun ks' c => cont_gone (cont_lift s c)) (ev_xf (ev_var ?_) hd hf List.lookup_cons_self) _ (by rw [← hN])
  rw [List.getElem?_set_self hi]
end
end Dl
set_option Elab.async false
set_option linter.all false
set_option maxRecDepth 100000
set_option maxHeartbeats 2000000
/-! Exc00: isinstance of a caught Refused. -/
namespace Dl
open PySem PySem.Spec PyProof.Rows L2
/-- what the written part says of the classes of errors -/
structure Rf0 (K : PySem.W.Frag) (mg : Str → Option Value) : Prop where
  g : mg "Refused" = some (.ref (clsA K "Refused"))
  gF : mg "Fault" = some (.ref (clsA K "Fault"))
  gM : mg "Malformed" = some (.ref (clsA K "Malformed"))
  gN : mg "NoText" = some (.ref (clsA K "NoText"))
  xf : L2.XfC K (clsA K "Refused")
  no : PySem.W.findIn K (.ref (clsA K "Refused")) "reason" = some none
  oex : L2.OexC K (clsA K "Refused")
  rF : PySem.W.exmOne K (.ref (clsA K "Refused")) (.ref (clsA K "Fault")) = some true
  kV : PySem.W.kitOne K (.ref (clsA K "Refused")) (.type "ValueError") = some true
  kM : PySem.W.kitOne K (.ref (clsA K "Refused")) (.ref (clsA K "Malformed")) = some false
  kN : PySem.W.kitOne K (.ref (clsA K "Refused")) (.ref (clsA K "NoText")) = some false
  cl : (PySem.W.clsIn K (clsA K "Refused")).isSome = true
  ha : PySem.W.findIn K (.ref (clsA K "Refused")) "__class__" = some (some (.builtin "object.__class__"))
  hn : PySem.W.specialIn K (.builtin "object.__class__") "__get__" = some (some (.builtin "getset_descriptor.__get__"))
  htk : PySem.W.takesIn K (.builtin "object.__class__") = some true
  hm : PySem.W.mroIn K (clsA K "Refused") (.type "object") = some true
def rIsiE (K : PySem.W.Frag) (a : Addr) (cls : Value) (d : Option Addr) : List V → Hp → VK → Prop := fun xs H Q => ∃ (c : V) (u : Value) (b : Bool) (dd : Addr) (fs : List (Str × V)), xs = [.ref a, c] ∧ L2.ClsV c u ∧ cls = .ref (clsA K "Refused") ∧ d = some dd ∧ H dd = some (.xd fs) ∧ PySem.W.kitOne K (.ref (clsA K "Refused")) u = some b ∧ Q (.bl b) H
def rIsiF (K : PySem.W.Frag) (a : Addr) (cls : Value) (d : Option Addr) : List V → Hp → VK → Prop := fun xs H Q => ∃ (tp : Addr) (cs : List V) (us : List Value) (b : Bool) (dd : Addr) (fs : List (Str × V)), xs = [.ref a, .ref tp] ∧ H tp = some (.tup cs) ∧ Paired L2.ClsV cs us ∧ cls = .ref (clsA K "Refused") ∧ d = some dd ∧ H dd = some (.xd fs) ∧ PySem.W.kitAny K (.ref (clsA K "Refused")) us = some b ∧ Q (.bl b) H
theorem kit_refF {K : PySem.W.Frag} {R C : Addr} (hc : (PySem.W.clsIn K C).isSome = true) (ht : PySem.W.typeIn K (.ref C) = some (.type "type")) (hs : PySem.W.subIn K (.ref R) (.ref R) = some true) (h : PySem.W.subIn K (.ref R) (.ref C) = some false) : PySem.W.kitOne K (.ref R) (.ref C) = some false := by
  unfold PySem.W.kitOne
  rw [if_neg fun e => by
    have e2 := beq_iff_eq.mp e
    cases e2
    rw [hs] at h
    cases h]
  unfold PySem.W.kitCls
  show (if ((PySem.W.clsIn K C).isSome && PySem.W.typeIn K (.ref C) == some (.type "type")) = true then _ else _) = _
  rw [hc, ht, if_pos (by rw [Bool.true_and]; exact beq_self_eq_true _)]
  exact h
theorem kit_tyT {K : PySem.W.Frag} {R : Addr} {n : String} {b : Bool} (hm : PySem.W.kitMeta n = true) (h : PySem.W.subIn K (.ref R) (.type n) = some b) : PySem.W.kitOne K (.ref R) (.type n) = some b := by
  unfold PySem.W.kitOne
  rw [if_neg fun e => by cases beq_iff_eq.mp e]
  unfold PySem.W.kitCls
  show (if PySem.W.kitMeta n = true then _ else _) = _
  rw [if_pos hm]
  exact h
section
variable {X : Cx} {a : Addr} {oe : Obj} {cls : Value} {d : Option Addr} {pn : List (Addr × Obj)} {mg : Str → Option Value}
theorem inst_of {pins : List (Addr × Obj)} {σ : L2.St} {H : Hp} {s : Shared} {C dd : Addr} {fs : List (Str × V)} (I : Inv (X.suite a ((a, oe) :: pn)) pins σ H s) (hz : Zc cls d oe) (hf : ∃ vs, oe.data = .fields vs) (e1 : cls = .ref C) (e2 : d = some dd) (e3 : H dd = some (.xd fs)) : ∃ od, PySem.W.InstAt s.heap a oe C od := by
  have there := (I.pin (a, oe) (List.mem_append_left _ List.mem_cons_self)).1
  obtain ⟨vs, dt⟩ := hf
  obtain ⟨m, ns, _⟩ := (show ObjOk X.prog X.w H s.heap dd (.xd fs) from I.hok dd _ e3)
  obtain ⟨o, at_, _⟩ := lookIn_ns ns
  have dct := hz.2.trans e2
  refine ⟨some o, there, hz.1.trans e1, ?_, ?_⟩
  · unfold PySem.W.notCls
    rw [dt] <;> rfl
  · rw [dct]
    exact at_
theorem call_isiE (K : PySem.W.Frag) (T : Rf0 K mg) (hz : Zc cls d oe) (hf : ∃ vs, oe.data = .fields vs) (hK : X.K = K := by rfl) : CallR (X.suite a ((a, oe) :: pn)) (.builtin "isinstance") (rIsiE K a cls d) := by
  subst hK
  rintro pins s σ H xs us Q I r ⟨c, u, b, dd, fs, rfl, kc, e1, e2, e3, e4, q⟩
  obtain ⟨w1, w2, rfl, r1, r2⟩ := vals2 r
  cases kc.eq r2
  cases r1
  obtain ⟨od, J⟩ := inst_of I hz hf e1 e2 e3
  exact PySem.W.kia_one (PySem.W.kitx_exc T.cl T.xf.ga T.xf.gg T.xf.exC T.ha T.hn T.htk T.hm) I.kIn J e4 nofun fun tk => ⟨.bl b, H, I.tok tk, rfl, q⟩
theorem call_isiF (K : PySem.W.Frag) (T : Rf0 K mg) (hz : Zc cls d oe) (hf : ∃ vs, oe.data = .fields vs) (hK : X.K = K := by rfl) : CallR (X.suite a ((a, oe) :: pn)) (.builtin "isinstance") (rIsiF K a cls d) := by
  subst hK
  rintro pins s σ H xs us Q I r ⟨tp, cs, ws, b, dd, fs, rfl, ht, kc, e1, e2, e3, e4, q⟩
  obtain ⟨w1, w2, rfl, r1, r2⟩ := vals2 r
  cases r1
  cases r2
  obtain ⟨od, J⟩ := inst_of I hz hf e1 e2 e3
  obtain ⟨_, its, rv, ⟨oc, od2, dt, sl⟩, g1, g2, n, g3⟩ := (show ObjOk X.prog X.w H s.heap tp (.tup cs) from I.hok tp _ ht)
  have e := L2.ClsV.all kc rv
  subst e
  dsimp only at g2 g3
  subst g2 g3
  exact PySem.W.kia_tup (PySem.W.kitx_exc T.cl T.xf.ga T.xf.gg T.xf.exC T.ha T.hn T.htk T.hm) I.kIn J g1 e4 nofun fun tk => ⟨.bl b, H, I.tok tk, rfl, q⟩
end
section
variable {F : Fm} {ks : List Kd} {E : Ends}
theorem ev_isiE {a dd : Addr} {gs : List (Str × V)} {te tc : TE} {c : V} {u : Value} {b : Bool} (h : Ev F ks te (.raw (.ref a))) (hc : Ev F ks tc (.raw c)) (hG : F.G dd = some (.xd gs)) (kc : L2.ClsV c u) (e : PySem.W.kitOne F.K (.ref (clsA F.K "Refused")) u = some b) : Ev F ks (tCB (rIsiE F.K a (.ref (clsA F.K "Refused")) (some dd)) (tCons te (tCons tc tNil))) (.bl b) :=
  ev_cb (ea_cons h (ea_one hc)) fun M σ H o vs a1 Q q => by
    cases a1 with
    | cons a1 a2 =>
      cases a2 with
      | cons a2 a3 =>
        cases a3
        cases a1
        cases a2
        exact ⟨c, u, b, dd, gs, rfl, kc, rfl, rfl, (hid_some (o.vis _ _ hG)).2, e, q _ _ H o .refl (.bl b) rfl⟩
theorem ev_isiF {a dd C1 C2 : Addr} {gs : List (Str × V)} {te : TE} {b : Bool} (h : Ev F ks te (.raw (.ref a))) (hG : F.G dd = some (.xd gs)) (e : PySem.W.kitAny F.K (.ref (clsA F.K "Refused")) [.ref C1, .ref C2] = some b) : Ev F ks (tCB (rIsiF F.K a (.ref (clsA F.K "Refused")) (some dd)) (tCons te (tCons (tTup (tCons (tC (.ref C1)) (tCons (tC (.ref C2)) tNil))) tNil))) (.bl b) := fun M σ H o Q q => h M σ H o _ fun v d0 H1 o1 s1 a1 e1 => by
  subst e1
  cases a1
  have hdd := (hid_some (o1.vis _ _ hG)).2
  refine ⟨by show 2 ≤ sizeLine; decide, fun p np => ⟨p, [.ref C1, .ref C2], [.ref C1, .ref C2], b, dd, gs, rfl, upd_same, .cons (.own _) (.cons (.own _) .nil), rfl, rfl, ?_, e, ?_⟩⟩
  · rw [upd_ne fun z => by rw [z, np] at hdd; cases hdd]
    exact hdd
  · exact q _ _ _ (o1.same (same_new np)) (s1.trans (.of (same_new np))) (.bl _) rfl
end
end Dl
set_option Elab.async false
set_option linter.all false
set_option maxRecDepth 100000
set_option maxHeartbeats 4000000
namespace Dl
open PySem PySem.Spec PyProof.Rows L2
local macro_rules | `(tactic| walk_at "ks") => `(tactic| (repeat (first | exact ksle_nil | refine ksle_cons (by first | exact KLe.refl _ | exact True.intro) ?_)))
abbrev topS (i : Nat) : Stmt := PySem.Challenge.pw_algebraparts_k00_numbers.main.body.getD i (.Pass ⟨0, 0, 0, 0⟩)
abbrev s_Ref : Stmt := inClass (topS 3) 0
theorem ok_Ref {CX : CXT} {P : Program} {w : World} {K : PySem.W.Frag} {mg : Str → Option Value} {base : Heap} {k : Nat} {f cc C cda : Addr} {dV kV doc pm ct : Value} {an : Option Addr}
    (T : SupT P K mg C f cc cda (PySem.W.ksFn "__init__" "Refused.__init__" (defArgs s_Ref) (defBody s_Ref) (defScope s_Ref) dV kV doc pm an (.ref cda) ct cc) "self") (hcd : PySem.W.codeIn K (.ref cda) "Refused.__init__" = true) :
    FnOk P w K mg base CX (k + 1) f (PySem.W.ksFn "__init__" "Refused.__init__" (defArgs s_Ref) (defBody s_Ref) (defScope s_Ref) dV kV doc pm an (.ref cda) ct cc) ["self", "reason"] (spRef K C "reason") :=
  fnOk_ref (x := "self") (y := "reason") (fld := "reason") T hcd rfl rfl rfl rfl rfl rfl rfl (by decide) (by decide +kernel) (hcf_of (by decide +kernel)) (by decide) (by decide) (by decide) (by decide) (fun _ => rfl) (fun _ => rfl) (fun _ => rfl) (fun _ => rfl)
abbrev s_is_integer : Stmt := topS 6
theorem sc_is_integer : FnScope ["value"] ["value"] (defScope s_is_integer) := ⟨rfl, rfl, rfl, by decide +kernel, rfl, by decide +kernel, by decide +kernel⟩
abbrev s_power : Stmt := topS 7
theorem sc_power : FnScope ["a", "k", "total", "_"] ["a", "k"] (defScope s_power) := ⟨rfl, rfl, rfl, by decide +kernel, rfl, by decide +kernel, by decide +kernel⟩
abbrev s_inverse : Stmt := topS 8
theorem sc_inverse : FnScope ["a", "p", "k"] ["a", "p"] (defScope s_inverse) := ⟨rfl, rfl, rfl, by decide +kernel, rfl, by decide +kernel, by decide +kernel⟩
abbrev s_divisors : Stmt := topS 9
theorem sc_divisors : FnScope ["n", "d"] ["n"] (defScope s_divisors) := ⟨rfl, rfl, rfl, by decide +kernel, rfl, by decide +kernel, by decide +kernel⟩
abbrev s__law_state : Stmt := topS 11
theorem sc__law_state : FnScope ["_law_script", "_law_seed", "_law_total", "_law_cell"] ["_law_script"] (defScope s__law_state) := ⟨rfl, rfl, rfl, by decide +kernel, rfl, by decide +kernel, by decide +kernel⟩
abbrev s__law_take : Stmt := topS 12
theorem sc__law_take : FnScope ["_law_state_here", "_law_m", "_law_value"] ["_law_state_here", "_law_m"] (defScope s__law_take) := ⟨rfl, rfl, rfl, by decide +kernel, rfl, by decide +kernel, by decide +kernel⟩
abbrev s__law_reason : Stmt := topS 13
theorem sc__law_reason : FnScope ["_law_a", "_law_p", "e"] ["_law_a", "_law_p"] (defScope s__law_reason) := ⟨rfl, rfl, rfl, by decide +kernel, rfl, by decide +kernel, by decide +kernel⟩
abbrev s_law : Stmt := topS 14
theorem sc_law : FnScope ["_law_script", "_law_state_here", "_law_p", "_law_a", "_law_b", "_law_k", "_law_total", "_law_turn", "_law_n", "_law_value", "_law_d"] ["_law_script"] (defScope s_law) := ⟨rfl, rfl, rfl, by decide +kernel, rfl, by decide +kernel, by decide +kernel⟩
structure Bl (mg : Str → Option Value) : Prop where
  b_isinstance : mg "isinstance" = none
  b_int : mg "int" = none
  b_bool : mg "bool" = none
  b_range : mg "range" = none
  b_tuple : mg "tuple" = none
  b_abs : mg "abs" = none
  b_ValueError : mg "ValueError" = none
/-! ### is_integer -/
def S_is_integer : List D → (D → Prop) → Prop := fun ds T => ∃ x : D, ds = [x] ∧ okT x ∧ T = fun d => d = .bl (isInt x)
abbrev spec_is_integer (K : PySem.W.Frag) : Sp := spP S_is_integer K
theorem ok_is_integer {P : Program} {w : World} {K : PySem.W.Frag} {mg : Str → Option Value} {base : Heap} {f : Addr} {fd : FuncData} (hB : Bl mg) (hRf : Rf0 K mg) (F : Fun K "is_integer" "is_integer" s_is_integer f fd) : FnOk P w K mg base (L2.CX P w) 1 f fd ["value"] (spec_is_integer K) := by
  refine F.okX sc_is_integer (fun vs H Q E h => ?_) (fun cdv A outer s H vs Q E hr h => ?_)
  · obtain ⟨M, ds, T, hv, lv, hS, q⟩ := h
    rw [hv.length]
    first | (obtain ⟨rfl, _⟩ := hS; rfl) | (obtain ⟨_, rfl, _⟩ := hS; rfl) | (obtain ⟨_, _, rfl, _⟩ := hS; rfl) | (obtain ⟨_, _, _, rfl, _⟩ := hS; rfl) | (obtain ⟨_, _, _, _, rfl, _⟩ := hS; rfl) | (obtain ⟨_, _, _, _, _, rfl, _⟩ := hS; rfl) | (obtain ⟨_, _, _, _, _, _, rfl, _⟩ := hS; rfl) | (obtain ⟨_, _, _, _, _, _, _, rfl, _⟩ := hS; rfl) | (obtain ⟨_, _, _, _, _, _, _, _, rfl, _⟩ := hS; rfl)
  · skip
    obtain ⟨M, ds, T, hv, lv, ⟨x, rfl, hx, rfl⟩, q⟩ := h
    refine ⟨_, PSs.nox ((pss_one (ps_ret (pe_and (pe_callB (call_isiK' K) (by rfl) hB.b_isinstance (by decide +kernel) (pa_cons (pv 0) (pa_cons (pe_bltn (v := .ty "int") (by rfl) hB.b_int (by decide +kernel) rfl) pa_nil))) (pe_one (pe_not (pe_callB (call_isiK' K) (by rfl) hB.b_isinstance (by decide +kernel) (pa_cons (pv 0) (pa_cons (pe_bltn (v := .ty "bool") (by rfl) hB.b_bool (by decide +kernel) rfl) pa_nil))))))))), ?_⟩
    refine inP hv lv [.dat x] ?_
    obtain ⟨nm, b1, b2, h1, h2, h3, h4⟩ := int_kit hx
    refine run_retP q (Same.refl _) rfl rfl (ev_and (d := .bl (b1 && !b2)) (ev_cb (ea_cons (ev_var rfl) (ea_one ev_raw)) (cav_isi h1 h2)) (fun c => Ev.to (ev_not (ev_cb (ea_cons (ev_var rfl) (ea_one ev_raw)) (cav_isi h1 h3))) (by rw [c]; rfl)) (fun c => by rw [c]; rfl)) fun d e => ?_
    rw [e, h4]
/-! ### power -/
def S_power : List D → (D → Prop) → Prop := fun ds T => ∃ (a : Int) (k : Nat), ds = [.int a, .int (k : Int)] ∧ -(2 ^ 64) < a ∧ a < 2 ^ 64 ∧ k ≤ 1000 ∧ T = fun d => d = .int (a ^ k)
abbrev spec_power (K : PySem.W.Frag) : Sp := spP S_power K
theorem ok_power {P : Program} {w : World} {K : PySem.W.Frag} {mg : Str → Option Value} {base : Heap} {f : Addr} {fd : FuncData} (hB : Bl mg) (hRf : Rf0 K mg) (F : Fun K "power" "power" s_power f fd) : FnOk P w K mg base (L2.CX P w) 1 f fd ["a", "k"] (spec_power K) := by
  refine F.okX sc_power (fun vs H Q E h => ?_) (fun cdv A outer s H vs Q E hr h => ?_)
  · obtain ⟨M, ds, T, hv, lv, hS, q⟩ := h
    rw [hv.length]
    first | (obtain ⟨rfl, _⟩ := hS; rfl) | (obtain ⟨_, rfl, _⟩ := hS; rfl) | (obtain ⟨_, _, rfl, _⟩ := hS; rfl) | (obtain ⟨_, _, _, rfl, _⟩ := hS; rfl) | (obtain ⟨_, _, _, _, rfl, _⟩ := hS; rfl) | (obtain ⟨_, _, _, _, _, rfl, _⟩ := hS; rfl) | (obtain ⟨_, _, _, _, _, _, rfl, _⟩ := hS; rfl) | (obtain ⟨_, _, _, _, _, _, _, rfl, _⟩ := hS; rfl) | (obtain ⟨_, _, _, _, _, _, _, _, rfl, _⟩ := hS; rfl)
  · skip
    obtain ⟨M, ds, T, hv, lv, ⟨a, k, rfl, ha, hb, hk, rfl⟩, q⟩ := h
    refine ⟨_, PSs.nox ((pss_cons (ps_set (i := 2) sc_power.nd rfl (by first | exact Or.inl rfl | exact Or.inr rfl) pe_int)
            (pss_cons (ps_for PassesOwn.never rfl (pi_range1 (by rfl) hB.b_range (pa_cons (pv 1) pa_nil)) (pg_name (i := 3) sc_power.nd rfl (by first | exact Or.inl rfl | exact Or.inr rfl)) (pss_one (ps_set (i := 2) sc_power.nd rfl (by first | exact Or.inl rfl | exact Or.inr rfl) (pe_mulK K (pv 2) (pv 0)))))
            (pss_one (ps_ret (pv 2)))))), ?_⟩
    refine inP hv lv [.dat (.int a), .dat (.int (k : Int)), .any, .any] ?_
    refine rs_asg ev_int ?_
    refine rs_for (ei_rng1 (ea_one (ev_var rfl)) (by omega)) (fun i => [.dat (.int a), .dat (.int (k : Int)), .dat (.int (a ^ i)), .any]) (by rw [Int.pow_zero]; walk_at "ks") (fun i d h B G w => ?_) ?_
    · refine ⟨_, gb_name, ?_⟩
      refine run_asg (ev_op (ev_var rfl) (ev_var rfl) (mv_int (cm_r ⟨ha, hb⟩))) (cont_nx1 (by rw [Int.pow_succ]; walk_at "ks"))
    · rw [ups_length, Int.toNat_natCast]
      exact run_retP q (Same.refl _) rfl rfl (ev_var rfl) fun d e => e
/-! ### inverse -/
def S_inverse (K : PySem.W.Frag) : List D → (D → Prop) → (Ex → Prop) → Prop := fun ds R Z => ∃ (a p : Int), ds = [.int a, .int p] ∧ PR p ∧ -(2 ^ 60) < a ∧ a < 2 ^ 60 ∧ R = (fun d => a % p ≠ 0 ∧ d = .int (mInv p a)) ∧ Z = fun e => a % p = 0 ∧ e = refE K "inverse"
abbrev spec_inverse (K : PySem.W.Frag) : Sp := spX (S_inverse K) K
theorem mInv_first {p a : Int} {i : Nat} (hi : i < (p - 1).toNat) (hn : ∀ j : Nat, j < i → a * (1 + (j : Int)) % p ≠ 1) (h : a * (1 + (i : Int)) % p = 1) : mInv p a = 1 + (i : Int) := by
  have e : ((List.range (p - 1).toNat).map fun (k : Nat) => 1 + (k : Int)).find? (fun k => a * k % p == 1) = some (1 + (i : Int)) := by
    rw [List.find?_eq_some_iff_getElem]
    refine ⟨by simpa using h, i, by rw [List.length_map, List.length_range]; exact hi, by rw [List.getElem_map, List.getElem_range], fun j hj => ?_⟩
    rw [List.getElem_map, List.getElem_range]
    simpa using hn j hj
  unfold mInv
  rw [e]
  rfl
theorem ok_inverse {P : Program} {w : World} {K : PySem.W.Frag} {mg : Str → Option Value} {base : Heap} {f : Addr} {fd : FuncData} (hB : Bl mg) (hRf : Rf0 K mg) (X_Refused : RefX P w K mg base "Refused" "reason" 1) (F : Fun K "inverse" "inverse" s_inverse f fd) : FnOk P w K mg base (L2.CX P w) 3 f fd ["a", "p"] (spec_inverse K) := by
  refine F.okX sc_inverse (fun vs H Q E h => ?_) (fun cdv A outer s H vs Q E hr h => ?_)
  · obtain ⟨M, ds, T, Z, hv, lv, hS, q, q2⟩ := h
    rw [hv.length]
    first | (obtain ⟨rfl, _⟩ := hS; rfl) | (obtain ⟨_, rfl, _⟩ := hS; rfl) | (obtain ⟨_, _, rfl, _⟩ := hS; rfl) | (obtain ⟨_, _, _, rfl, _⟩ := hS; rfl) | (obtain ⟨_, _, _, _, rfl, _⟩ := hS; rfl) | (obtain ⟨_, _, _, _, _, rfl, _⟩ := hS; rfl) | (obtain ⟨_, _, _, _, _, _, rfl, _⟩ := hS; rfl) | (obtain ⟨_, _, _, _, _, _, _, rfl, _⟩ := hS; rfl) | (obtain ⟨_, _, _, _, _, _, _, _, rfl, _⟩ := hS; rfl)
  · skip
    obtain ⟨M, ds, R, Z, hv, lv, ⟨a, p, rfl, hp, ha1, ha2, rfl, rfl⟩, q, q2⟩ := h
    have hp0 := hp.pos
    have hp7 := hp.le
    refine ⟨_, (pss_cons (ps_for (passes_of rfl) rfl (pi_range2 (by rfl) hB.b_range (pa_cons pe_int (pa_cons (pv 1) pa_nil))) (pg_name (i := 2) sc_inverse.nd rfl (by first | exact Or.inl rfl | exact Or.inr rfl)) (pss_one (ps_if (pt_cmpR (op_eqK K hr.units) (pe_op op_mod (pe_mulK K (pv 0) (pv 2)) (pv 1)) pe_int (nomark _)) (pss_one (ps_ret (pv 2))) pss_nil)))
            (pss_one (ps_raiseF X_Refused (hr.mono (by decide)) rfl (takes_of rfl rfl rfl rfl) (by rfl)))), ?_⟩
    refine inP hv lv [.dat (.int a), .dat (.int p), .any] ?_
    refine rs_forR (ei_rng2 (ea_cons ev_int (ea_one (ev_var rfl))) (by omega)) (fun _ i ks => KsLe ks [.dat (.int a), .dat (.int p), .any] ∧ ∀ j : Nat, j < i → a * (1 + (j : Int)) % p ≠ 1) (fun _ _ => ⟨KsLe.rfl' _, fun j hj => absurd hj (Nat.not_lt_zero j)⟩) (fun items i d ks' e h hI B G w => ?_) fun items ks' e hI => ?_
    · subst e
      obtain ⟨hi, rfl⟩ := ups_get h
      refine ⟨_, gb_name, Cont.weak (ks' := [.dat (.int a), .dat (.int p), .dat (.int (1 + (i : Int)))]) ?_ ?_⟩
      · refine run_if (et_test (ev_op (ev_op (ev_op (ev_var rfl) (ev_var rfl) (mv_int (cm_l (by omega)))) (ev_var rfl) (opv_I hp0)) ev_int qv_int)) (fun c => ?_) fun c => ?_
        · refine run_retP q w.b rfl rfl (ev_var rfl) fun d e => ⟨fun z => ?_, ?_⟩
          · have := of_decide_eq_true c
            rw [Int.mul_emod, z, Int.zero_mul] at this
            simp at this
          · rw [e, mInv_first hi hI.2 (of_decide_eq_true c)]
        · refine cont_nxw (ks' := [.dat (.int a), .dat (.int p), .any]) ?_ ⟨?_, fun j hj => ?_⟩
          · walk_at "ks"
          · exact KsLe.rfl' _
          · by_cases e : j = i
            · subst e
              exact of_decide_eq_false c
            · exact hI.2 j (by omega)
      · exact ksle_set hI.1 (KLe.refl _)
    · subst e
      by_cases hd : a % p = 0
      · exact run_raiseF hRf.oex hRf.no (out_E q2 (Same.refl _) rfl ⟨hd, rfl⟩)
      · refine fun M σ H o => absurd ?_ (hI.2 (mInv p a - 1).toNat ?_)
        all_goals (have hk := mInv_ok hp hd; first | (rw [ups_length]; omega) | (rw [show (1 : Int) + (((mInv p a - 1).toNat : Nat) : Int) = mInv p a by omega]; exact hk.2.2))
/-! ### divisors -/
def dvs (n : Nat) : List D := ((List.range n).filter fun (k : Nat) => decide ((n : Int) % (1 + (k : Int)) = 0)).map fun (k : Nat) => .int (1 + (k : Int))
def S_divisors : List D → (D → Prop) → Prop := fun ds T => ∃ n : Nat, ds = [.int (n : Int)] ∧ n ≤ 1000 ∧ T = fun d => d = .tup (dvs n)
abbrev spec_divisors (K : PySem.W.Frag) : Sp := spP S_divisors K
theorem ei_to {F : Fm} {ks : List Kd} {wi : TI} {ds es : List D} (h : EvI F ks wi ds) (e : ds = es) : EvI F ks wi es := by rw [← e]; exact h
theorem ok_divisors {P : Program} {w : World} {K : PySem.W.Frag} {mg : Str → Option Value} {base : Heap} {f : Addr} {fd : FuncData} (hB : Bl mg) (hRf : Rf0 K mg) (F : Fun K "divisors" "divisors" s_divisors f fd) : FnOk P w K mg base (L2.CX P w) 1 f fd ["n"] (spec_divisors K) := by
  refine F.okX sc_divisors (fun vs H Q E h => ?_) (fun cdv A outer s H vs Q E hr h => ?_)
  · obtain ⟨M, ds, T, hv, lv, hS, q⟩ := h
    rw [hv.length]
    first | (obtain ⟨rfl, _⟩ := hS; rfl) | (obtain ⟨_, rfl, _⟩ := hS; rfl) | (obtain ⟨_, _, rfl, _⟩ := hS; rfl) | (obtain ⟨_, _, _, rfl, _⟩ := hS; rfl) | (obtain ⟨_, _, _, _, rfl, _⟩ := hS; rfl) | (obtain ⟨_, _, _, _, _, rfl, _⟩ := hS; rfl) | (obtain ⟨_, _, _, _, _, _, rfl, _⟩ := hS; rfl) | (obtain ⟨_, _, _, _, _, _, _, rfl, _⟩ := hS; rfl) | (obtain ⟨_, _, _, _, _, _, _, _, rfl, _⟩ := hS; rfl)
  · skip
    obtain ⟨M, ds, T, hv, lv, ⟨n, rfl, hn, rfl⟩, q⟩ := h
    refine ⟨_, PSs.nox ((pss_one (ps_ret (pe_callTy (call_tupleK K) (by rfl) hB.b_tuple (by decide +kernel) (pa_cons (pe_lc (own := [("d", 1)]) (g := gName 1) rfl sc_divisors.nd (pi_range2 (by rfl) hB.b_range (pa_cons pe_int (pa_cons (pe_addK K (pv 0) pe_int) pa_nil))) (blkOk_by (own := [("d", 1)]) (by first | rfl | decide +kernel)) (fun _ _ _ _ _ => (pg_name (i := 1) sc_divisors.nd rfl (by first | exact Or.inl rfl | exact Or.inr rfl))) (fun _ _ _ _ _ => pts_one (pt_cmpR (op_eqK K hr.units) (pe_op op_mod (pv 0) (pv 1)) pe_int (nomark _))) (fun _ _ _ _ _ => (pv 1))) pa_nil))))), ?_⟩
    refine inP hv lv [.dat (.int (n : Int)), .any] ?_
    refine run_retP q (Same.refl _) rfl rfl (ev_tuple (el_filt (xs := List.range n) (enc := fun k => .int (1 + (k : Nat))) (b := fun k => decide ((n : Int) % (1 + (k : Int)) = 0)) (f := fun k => .int (1 + (k : Int))) (ei_to (ei_rng2 (ea_cons ev_int (ea_one (ev_op (ev_var rfl) ev_int av_int))) (by omega)) ?a) (sz (by rw [List.length_range]; omega)) fun k hk => ⟨_, gw_name, et_test (ev_op (ev_op (ev_var rfl) (ev_var rfl) (opv_I (by omega))) ev_int qv_int), fun _ => ev_var rfl⟩)) fun d e => e
    case a =>
      unfold ups
      rw [show ((n : Int) + 1 - 1).toNat = n by omega]
/-! ### _law_state -/
def S__law_state : List D → (List D → Prop) → Prop := fun ds T => ∃ ns : List Int, ds = [.sls (ns.map D.int)] ∧ T = stOk
abbrev spec__law_state (K : PySem.W.Frag) : Sp := spL S__law_state K
theorem ok__law_state {P : Program} {w : World} {K : PySem.W.Frag} {mg : Str → Option Value} {base : Heap} {f : Addr} {fd : FuncData} (hB : Bl mg) (hRf : Rf0 K mg) (F : Fun K "_law_state" "_law_state" s__law_state f fd) : FnOk P w K mg base (L2.CX P w) 1 f fd ["_law_script"] (spec__law_state K) := by
  refine F.okX sc__law_state (fun vs H Q E h => ?_) (fun cdv A outer s H vs Q E hr h => ?_)
  · obtain ⟨M, ds, T, hv, lv, hS, q⟩ := h
    rw [hv.length]
    first | (obtain ⟨rfl, _⟩ := hS; rfl) | (obtain ⟨_, rfl, _⟩ := hS; rfl) | (obtain ⟨_, _, rfl, _⟩ := hS; rfl) | (obtain ⟨_, _, _, rfl, _⟩ := hS; rfl) | (obtain ⟨_, _, _, _, rfl, _⟩ := hS; rfl) | (obtain ⟨_, _, _, _, _, rfl, _⟩ := hS; rfl) | (obtain ⟨_, _, _, _, _, _, rfl, _⟩ := hS; rfl) | (obtain ⟨_, _, _, _, _, _, _, rfl, _⟩ := hS; rfl) | (obtain ⟨_, _, _, _, _, _, _, _, rfl, _⟩ := hS; rfl)
  · skip
    obtain ⟨M, ds, T, hv, lv, ⟨ns, rfl, rfl⟩, q⟩ := h
    refine ⟨_, PSs.nox ((pss_cons (ps_set (i := 1) sc__law_state.nd rfl (by first | exact Or.inl rfl | exact Or.inr rfl) pe_int)
            (pss_cons (ps_set (i := 2) sc__law_state.nd rfl (by first | exact Or.inl rfl | exact Or.inr rfl) pe_int)
            (pss_cons (ps_for PassesOwn.never rfl (pi_seqK K (pe_sliceK K (pv 0) po_none (po_some pe_int))) (pg_name (i := 3) sc__law_state.nd rfl (by first | exact Or.inl rfl | exact Or.inr rfl)) (pss_cons (ps_set (i := 1) sc__law_state.nd rfl (by first | exact Or.inl rfl | exact Or.inr rfl) (pe_addK K (pe_mulK K (pv 1) pe_int) (pe_callB call_abs (by rfl) hB.b_abs (by decide +kernel) (pa_cons (pv 3) pa_nil))))
            (pss_one (ps_set (i := 2) sc__law_state.nd rfl (by first | exact Or.inl rfl | exact Or.inr rfl) (pe_op op_mod (pe_callTy call_int1 (by rfl) hB.b_int (by decide +kernel) (pa_cons (pe_addK K (pe_mulK K (pv 2) pe_int) (pv 3)) pa_nil)) pe_int)))))
            (pss_one (ps_ret (pe_lst (pa_cons (pv 1) (pa_cons (pv 2) pa_nil))))))))), ?_⟩
    refine inP hv lv [.dat (.sls (ns.map D.int)), .any, .any, .any] ?_
    refine rs_asg ev_int (rs_asg ev_int ?_)
    refine rs_forR (ei_seqN (el_slS' (ev_var rfl) eo_none (eo_some ev_int))) (fun _ i ks => ∃ s t : Int, 0 ≤ s ∧ 0 ≤ t ∧ KsLe ks [.dat (.sls (ns.map D.int)), .dat (.int s), .dat (.int t), .any]) (fun _ _ => ⟨0, 1, by decide, by decide, KsLe.rfl' _⟩) (fun items i d ks' e h hI B G w => ?_) fun items ks' e hI => ?_
    · obtain ⟨s, t, hs, ht, hk⟩ := hI
      obtain ⟨c, rfl⟩ : ∃ c, d = .int c := by
        rw [e] at h
        have h2 := List.mem_of_getElem? h
        obtain ⟨c, _, e2⟩ := List.mem_map.mp (List.mem_of_mem_drop (List.mem_of_mem_take h2))
        exact ⟨c, e2.symm⟩
      refine ⟨_, gb_name, Cont.weak (ks' := [.dat (.sls (ns.map D.int)), .dat (.int s), .dat (.int t), .dat (.int c)]) ?_ (ksle_set hk (KLe.refl _))⟩
      refine rs_asg (ev_op (ev_op (ev_var rfl) ev_int (mv_int (cm_r (by decide)))) (ev_cb (ea_one (ev_var rfl)) cav_abs) av_int) ?_
      refine run_asg (ev_op (ev_cb (ea_one (ev_op (ev_op (ev_var rfl) ev_int (mv_int (cm_r (by decide)))) (ev_var rfl) av_int)) cav_int) ev_int (opv_I (by decide))) (cont_nx ⟨s * 1000003 + (if c < 0 then -c else c), (t * 48271 + c) % 2147483647, ?_, ?_, ?_⟩)
      · split <;> omega
      · exact Int.emod_nonneg _ (by decide)
      · walk_at "ks"
    · obtain ⟨s, t, hs, ht, hk⟩ := hI
      refine rs_weak ?_ hk
      exact run_retL q (Same.refl _) rfl rfl (el_lst (ea_cons (ev_var rfl) (ea_one (ev_var rfl)))) fun d e => ⟨s, t, e, hs, ht⟩
/-! ### _law_take -/
def S__law_take : List D → (D → Prop) → Prop := fun ds T => ∃ m : Int, ds = [.int m] ∧ 0 < m ∧ m < 2 ^ 30 ∧ T = fun d => ∃ r : Int, 0 ≤ r ∧ r < m ∧ d = .int r
abbrev spec__law_take (K : PySem.W.Frag) : Sp := spS stOk S__law_take K
theorem ok__law_take {P : Program} {w : World} {K : PySem.W.Frag} {mg : Str → Option Value} {base : Heap} {f : Addr} {fd : FuncData} (hB : Bl mg) (hRf : Rf0 K mg) (F : Fun K "_law_take" "_law_take" s__law_take f fd) : FnOk P w K mg base (L2.CX P w) 1 f fd ["_law_state_here", "_law_m"] (spec__law_take K) := by
  refine F.okX sc__law_take (fun vs H Q E h => ?_) (fun cdv A outer s H vs Q E hr h => ?_)
  · obtain ⟨M, a, us, vs0, ds0, ds, T, rfl, _, _, _, _, hv, lv, hS, q⟩ := h
    rw [List.length_cons, hv.length]
    first | (obtain ⟨rfl, _⟩ := hS; rfl) | (obtain ⟨_, rfl, _⟩ := hS; rfl) | (obtain ⟨_, _, rfl, _⟩ := hS; rfl) | (obtain ⟨_, _, _, rfl, _⟩ := hS; rfl) | (obtain ⟨_, _, _, _, rfl, _⟩ := hS; rfl) | (obtain ⟨_, _, _, _, _, rfl, _⟩ := hS; rfl) | (obtain ⟨_, _, _, _, _, _, rfl, _⟩ := hS; rfl) | (obtain ⟨_, _, _, _, _, _, _, rfl, _⟩ := hS; rfl) | (obtain ⟨_, _, _, _, _, _, _, _, rfl, _⟩ := hS; rfl)
  · skip
    obtain ⟨M, a, us, vs0, ds0, ds, T, rfl, ha, hl0, h0, hφ, hv, lv, ⟨m, rfl, hm, hm2, rfl⟩, q⟩ := h
    refine ⟨_, PSs.nox ((pss_cons (ps_if (pt_cmpR op_gt (pe_ixK K (pv 0) pe_int (fun _ _ => rfl)) pe_int (nomark _)) (pss_cons (ps_set (i := 2) sc__law_take.nd rfl (by first | exact Or.inl rfl | exact Or.inr rfl) (pe_op op_mod (pe_callTy call_int1 (by rfl) hB.b_int (by decide +kernel) (pa_cons (pe_ixK K (pv 0) pe_int (fun _ _ => rfl)) pa_nil)) (pv 1)))
            (pss_cons (ps_asg (pe_op op_fdiv (pe_ixK K (pv 0) pe_int (fun _ _ => rfl)) (pv 1)) (pg_sub (pv 0) pe_int set_list))
            (pss_one (ps_ret (pv 2))))) pss_nil)
            (pss_cons (ps_asg (pe_op op_mod (pe_callTy call_int1 (by rfl) hB.b_int (by decide +kernel) (pa_cons (pe_addK K (pe_mulK K (pe_ixK K (pv 0) pe_int (fun _ _ => rfl)) pe_int) pe_int) pa_nil)) pe_int) (pg_sub (pv 0) pe_int set_list))
            (pss_one (ps_ret (pe_op op_mod (pe_callTy call_int1 (by rfl) hB.b_int (by decide +kernel) (pa_cons (pe_op op_fdiv (pe_ixK K (pv 0) pe_int (fun _ _ => rfl)) pe_int) pa_nil)) (pv 1))))))), ?_⟩
    refine inS ha hl0 h0 hφ hv lv [.bor stOk, .dat (.int m), .any] ?_
    refine cont_open (i := 0) rfl rfl fun es hes => ?_
    obtain ⟨s, t, rfl, hs, ht⟩ := hes
    refine rs_if (et_test (ev_op (ev_ixM (j := 0) (R := fun d => d = .int s) rfl rfl ev_int fun ds e => ⟨_, by rw [show ds = _ from e]; exact atI_nat (j := 0) rfl, rfl⟩) ev_int opv_B0)) (fun c => ?_) fun c => ?_
    · refine rs_asg (ev_op (ev_cb (ea_one (ev_ixM (j := 0) (R := fun d => d = .int s) rfl rfl ev_int fun ds e => ⟨_, by rw [show ds = _ from e]; exact atI_nat (j := 0) rfl, rfl⟩)) cav_int) (ev_var rfl) (opv_I hm)) ?_
      refine rs_setB (n := 0) (ψ := stOk) (ds := [.int s, .int t]) rfl rfl (fun x e => e) (ev_op (ev_ixM (j := 0) (R := fun d => d = .int s) rfl rfl ev_int fun ds e => ⟨_, by rw [show ds = _ from e]; exact atI_nat (j := 0) rfl, rfl⟩) (ev_var rfl) (opv_I ⟨hm, hm2⟩)) ev_int rfl ⟨_, _, rfl, Int.ediv_nonneg hs (Int.le_of_lt hm), ht⟩ ?_
      refine run_retS q (Same.refl _) lv rfl rfl (i := 0) rfl (ev_var rfl) fun d e => ⟨_, (emod_in hm s).1, (emod_in hm s).2, e⟩
    · refine rs_setB (n := 1) (ψ := fun x => x = [.int s, .int ((t * 48271 + 11) % 2147483647)]) (ds := [.int s, .int t]) (d := .int ((t * 48271 + 11) % 2147483647)) rfl rfl (fun x e => e) (ev_op (ev_cb (ea_one (ev_op (ev_op (ev_ixM (j := 1) (R := fun d => d = .int t) rfl rfl ev_int fun ds e => ⟨_, by rw [show ds = _ from e]; exact atI_nat (j := 1) rfl, rfl⟩) ev_int (mv_int (cm_r (by decide)))) ev_int av_int)) cav_int) ev_int (opv_I (by decide))) ev_int rfl rfl ?_
      refine run_retSw q (Same.refl _) lv rfl rfl (i := 0) rfl (fun x e => ⟨s, _, e, hs, Int.emod_nonneg _ (by decide)⟩) (ev_op (ev_cb (ea_one (ev_op (ev_ixM (j := 1) (R := fun d => d = .int ((t * 48271 + 11) % 2147483647)) rfl rfl ev_int fun ds e => ⟨_, by rw [show ds = _ from e]; exact atI_nat (j := 1) rfl, rfl⟩) ev_int (opv_I ⟨by decide, by decide⟩))) cav_int) (ev_var rfl) (opv_I hm)) fun d e => ⟨_, (emod_in hm _).1, (emod_in hm _).2, e⟩
/-! ### _law_reason -/
def S__law_reason : List D → (D → Prop) → Prop := fun ds T => ∃ (a p : Int), ds = [.int a, .int p] ∧ PR p ∧ -(2 ^ 60) < a ∧ a < 2 ^ 60 ∧ a % p = 0 ∧ T = fun d => d = .tup [.str "refused", .str "inverse"]
abbrev spec__law_reason (K : PySem.W.Frag) : Sp := spP S__law_reason K
theorem ok__law_reason {P : Program} {w : World} {K : PySem.W.Frag} {mg : Str → Option Value} {base : Heap} {f : Addr} {fd : FuncData} (hB : Bl mg) (hRf : Rf0 K mg) (D_inverse : Df P w K mg base "inverse" 3 ["a", "p"] (spec_inverse K)) (F : Fun K "_law_reason" "_law_reason" s__law_reason f fd) : FnOk P w K mg base (L2.CX P w) 4 f fd ["_law_a", "_law_p"] (spec__law_reason K) := by
  refine F.okX sc__law_reason (fun vs H Q E h => ?_) (fun cdv A outer s H vs Q E hr h => ?_)
  · obtain ⟨M, ds, T, hv, lv, hS, q⟩ := h
    rw [hv.length]
    first | (obtain ⟨rfl, _⟩ := hS; rfl) | (obtain ⟨_, rfl, _⟩ := hS; rfl) | (obtain ⟨_, _, rfl, _⟩ := hS; rfl) | (obtain ⟨_, _, _, rfl, _⟩ := hS; rfl) | (obtain ⟨_, _, _, _, rfl, _⟩ := hS; rfl) | (obtain ⟨_, _, _, _, _, rfl, _⟩ := hS; rfl) | (obtain ⟨_, _, _, _, _, _, rfl, _⟩ := hS; rfl) | (obtain ⟨_, _, _, _, _, _, _, rfl, _⟩ := hS; rfl) | (obtain ⟨_, _, _, _, _, _, _, _, rfl, _⟩ := hS; rfl)
  · skip
    obtain ⟨M, ds, T, hv, lv, ⟨a, p, rfl, hp, ha1, ha2, hz, rfl⟩, q⟩ := h
    refine ⟨_, (pss_cons (ps_tryW rfl rfl (fun W pn xe tk po => (pss_one (ps_expr (pe_callX D_inverse (hr.mono (by decide)) tk (by rfl) (pa_cons (pv 0) (pa_cons (pv 1) pa_nil)))))) (by exact (hds_as (i := 2) rfl sc__law_reason.nd rfl rfl (by exact ⟨rfl, by decide, .inl hRf.gF⟩) (fun a oe cls d pn hz hf => by exact (pss_one (ps_if (PW.pt (pw_and (pt_val (pe_callB (call_isiE K hRf hz hf) (by rfl) hB.b_isinstance (by decide +kernel) (pa_cons (pv 2) (pa_cons (pe_glob (v := .ref (clsA K "Refused")) (by rfl) hRf.g rfl) pa_nil)))) (pw_and (pt_val (pe_callB (call_isiE K hRf hz hf) (by rfl) hB.b_isinstance (by decide +kernel) (pa_cons (pv 2) (pa_cons (pe_bltn (v := .ty "ValueError") (by rfl) hB.b_ValueError (by decide +kernel) rfl) pa_nil)))) (pw_and1 (pt_not (pt_val (pe_callB (call_isiF K hRf hz hf) (by rfl) hB.b_isinstance (by decide +kernel) (pa_cons (pv 2) (pa_cons (pe_tup (pa_cons (pe_glob (v := .ref (clsA K "Malformed")) (by rfl) hRf.gM rfl) (pa_cons (pe_glob (v := .ref (clsA K "NoText")) (by rfl) hRf.gN rfl) pa_nil))) pa_nil))))))))) (pss_one (ps_ret (pe_tup (pa_cons pe_str (pa_cons (pe_xf hRf.xf hRf.no hz hf (pv 2)) pa_nil))))) pss_nil))) (hds_nil rfl rfl (takes_of rfl rfl rfl rfl)))))
            (pss_one (ps_ret pe_non))), ?_⟩
    refine inP hv lv [.dat (.int a), .dat (.int p), .any] ?_
    refine rs_tryW fun W hW => ?_
    have out : Out { K := K, B := H, G := hid M H, M0 := M } [.dat (.int a), .dat (.int p), .any] W (refE K "inverse") := out_as hW hRf.rF fun x dd gs B' G' s hd hf => by
      refine run_if (b := true) (et_and (a := true) (b := true) (et_test (ev_isiE (ev_var rfl) ev_raw hd (.own _) (if_pos (beq_self_eq_true _)))) fun _ => et_and (a := true) (b := true) (et_test (ev_isiE (ev_var rfl) ev_raw hd (.ty _) hRf.kV)) fun _ => et_not (a := false) (et_test (ev_isiF (ev_var rfl) hd (L2.kitAny_cons hRf.kM (fun _ => L2.kitAny_cons hRf.kN (fun _ => L2.kitAny_nil) nofun) nofun)))) (fun _ => ?_) fun c => absurd c (by decide)
      exact run_retP q s.b rfl rfl (ev_tup (ea_cons ev_str (ea_one (ev_xf (ev_var rfl) hd hf List.lookup_cons_self)))) fun d e => e
    exact run_dropR (ev_callX (ea_cons (ev_var rfl) (ea_one (ev_var rfl))) ⟨a, p, rfl, hp, ha1, ha2, rfl, rfl⟩ fun e he => by rw [he.2]; exact out) fun ⟨_, e, _⟩ => absurd hz e
/-! ### law -/
def S_law : List D → (D → Prop) → Prop := fun ds T => ∃ ns : List Int, ds = [.sls (ns.map D.int)] ∧ T = fun d => d = .bl true
abbrev spec_law (K : PySem.W.Frag) : Sp := spP S_law K
/-- the values that are no integers -/
def vls : List D := [.bl true, .bl false, .non, .str "1", .tup [.int 1], .lst [.int 1], .tup []]
theorem vls_not : ∀ d ∈ vls, okT d ∧ isInt d = false := by
  intro d hd
  simp only [vls, List.mem_cons, List.not_mem_nil, or_false] at hd
  rcases hd with e | e | e | e | e | e | e <;> subst e <;> exact ⟨by simp [okT, tyD], rfl⟩
theorem dvs_eq (n : Nat) : dvs n = ((List.range n).filter fun (k : Nat) => decide ((n : Int) / (1 + (k : Int)) * (1 + (k : Int)) = (n : Int))).map fun (k : Nat) => D.int (1 + (k : Int)) := by
  unfold dvs
  congr 1
  refine List.filter_congr fun k _ => decide_eq_decide.mpr ?_
  have h := Int.emod_add_mul_ediv (n : Int) (1 + (k : Int))
  rw [Int.mul_comm] at h
  omega
theorem rs_ifJ {F : Fm} {ks : List Kd} {E : Ends} {tt : TT} {t t2 u : TS} {b : Bool} (ks' : List Kd) (h : EvT F ks tt b) (h1 : b = true → ∀ N : Sg → Hp → Prop, Cont F ks' N → Run F ks t { E with nx := N }) (h2 : b = false → ∀ N : Sg → Hp → Prop, Cont F ks' N → Run F ks t2 { E with nx := N }) (c : Run F ks' u E) : Run F ks (tSeq (tIfS tt t t2) u) E :=
  rs_ifE h (fun e => h1 e (u E) c) fun e => h2 e (u E) c
theorem okRi : okD (.tup [.str "refused", .str "inverse"]) = true := by decide +kernel
theorem ok_law {P : Program} {w : World} {K : PySem.W.Frag} {mg : Str → Option Value} {base : Heap} {f : Addr} {fd : FuncData} (hB : Bl mg) (hRf : Rf0 K mg) (D_is_integer : Df P w K mg base "is_integer" 1 ["value"] (spec_is_integer K)) (D_divisors : Df P w K mg base "divisors" 1 ["n"] (spec_divisors K)) (D__law_take : Df P w K mg base "_law_take" 1 ["_law_state_here", "_law_m"] (spec__law_take K)) (D_power : Df P w K mg base "power" 1 ["a", "k"] (spec_power K)) (D__law_reason : Df P w K mg base "_law_reason" 4 ["_law_a", "_law_p"] (spec__law_reason K)) (D_inverse : Df P w K mg base "inverse" 3 ["a", "p"] (spec_inverse K)) (D__law_state : Df P w K mg base "_law_state" 1 ["_law_script"] (spec__law_state K)) (F : Fun K "law" "law" s_law f fd) : FnOk P w K mg base (L2.CX P w) 5 f fd ["_law_script"] (spec_law K) := by
  refine F.okX sc_law (fun vs H Q E h => ?_) (fun cdv A outer s H vs Q E hr h => ?_)
  · obtain ⟨M, ds, T, hv, lv, hS, q⟩ := h
    rw [hv.length]
    first | (obtain ⟨rfl, _⟩ := hS; rfl) | (obtain ⟨_, rfl, _⟩ := hS; rfl) | (obtain ⟨_, _, rfl, _⟩ := hS; rfl) | (obtain ⟨_, _, _, rfl, _⟩ := hS; rfl) | (obtain ⟨_, _, _, _, rfl, _⟩ := hS; rfl) | (obtain ⟨_, _, _, _, _, rfl, _⟩ := hS; rfl) | (obtain ⟨_, _, _, _, _, _, rfl, _⟩ := hS; rfl) | (obtain ⟨_, _, _, _, _, _, _, rfl, _⟩ := hS; rfl) | (obtain ⟨_, _, _, _, _, _, _, _, rfl, _⟩ := hS; rfl)
  · skip
    obtain ⟨M, ds, T, hv, lv, ⟨ns, rfl, rfl⟩, q⟩ := h
    refine ⟨_, PSs.nox ((pss_cons (ps_set (i := 1) sc_law.nd rfl (by first | exact Or.inl rfl | exact Or.inr rfl) (pe_callD D__law_state (hr.mono (by decide)) (by rfl) (pa_cons (pv 0) pa_nil)))
            (pss_cons (ps_set (i := 2) sc_law.nd rfl (by first | exact Or.inl rfl | exact Or.inr rfl) (pe_ixK K (pe_lst (pa_cons pe_int (pa_cons pe_int (pa_cons pe_int (pa_cons pe_int pa_nil))))) (pe_callD D__law_take (hr.mono (by decide)) (by rfl) (pa_cons (pv 1) (pa_cons pe_int pa_nil))) (fun _ _ => rfl)))
            (pss_cons (ps_set (i := 3) sc_law.nd rfl (by first | exact Or.inl rfl | exact Or.inr rfl) (pe_op op_sub (pe_callD D__law_take (hr.mono (by decide)) (by rfl) (pa_cons (pv 1) (pa_cons pe_int pa_nil))) pe_int))
            (pss_cons (ps_if (pt_cmpR (op_eqK K hr.units) (pe_op op_mod (pe_callTy call_int1 (by rfl) hB.b_int (by decide +kernel) (pa_cons (pv 3) pa_nil)) (pv 2)) pe_int (nomark _)) (pss_one (ps_if (pt_cmpR (op_neK K hr.units) (pe_callD D__law_reason (hr.mono (by decide)) (by rfl) (pa_cons (pv 3) (pa_cons (pv 2) pa_nil))) (pe_tup (pa_cons pe_str (pa_cons pe_str pa_nil))) (nomark _)) (pss_one (ps_ret pe_bl)) pss_nil)) (pss_cons (ps_set (i := 4) sc_law.nd rfl (by first | exact Or.inl rfl | exact Or.inr rfl) (pe_callD D_inverse (hr.mono (by decide)) (by rfl) (pa_cons (pv 3) (pa_cons (pv 2) pa_nil))))
            (pss_one (ps_if (PW.pt (pw_or (pt_not (pt_chain op_lt op_lt pe_int (pv 4) (pv 2))) (pw_or1 (pt_cmpR (op_neK K hr.units) (pe_op op_mod (pe_callTy call_int1 (by rfl) hB.b_int (by decide +kernel) (pa_cons (pe_mulK K (pv 3) (pv 4)) pa_nil)) (pv 2)) pe_int (nomark _))))) (pss_one (ps_ret pe_bl)) pss_nil))))
            (pss_cons (ps_set (i := 5) sc_law.nd rfl (by first | exact Or.inl rfl | exact Or.inr rfl) (pe_callD D__law_take (hr.mono (by decide)) (by rfl) (pa_cons (pv 1) (pa_cons pe_int pa_nil))))
            (pss_cons (ps_set (i := 6) sc_law.nd rfl (by first | exact Or.inl rfl | exact Or.inr rfl) pe_int)
            (pss_cons (ps_for PassesOwn.never rfl (pi_range1 (by rfl) hB.b_range (pa_cons (pv 5) pa_nil)) (pg_name (i := 7) sc_law.nd rfl (by first | exact Or.inl rfl | exact Or.inr rfl)) (pss_one (ps_set (i := 6) sc_law.nd rfl (by first | exact Or.inl rfl | exact Or.inr rfl) (pe_mulK K (pv 6) (pv 3)))))
            (pss_cons (ps_if (pt_cmpR (op_neK K hr.units) (pe_callD D_power (hr.mono (by decide)) (by rfl) (pa_cons (pv 3) (pa_cons (pv 5) pa_nil))) (pv 6) (nomark _)) (pss_one (ps_ret pe_bl)) pss_nil)
            (pss_cons (ps_set (i := 8) sc_law.nd rfl (by first | exact Or.inl rfl | exact Or.inr rfl) (pe_addK K pe_int (pe_callD D__law_take (hr.mono (by decide)) (by rfl) (pa_cons (pv 1) (pa_cons pe_int pa_nil)))))
            (pss_cons (ps_if (pt_cmpR (op_neK K hr.units) (pe_callD D_divisors (hr.mono (by decide)) (by rfl) (pa_cons (pv 8) pa_nil)) (pe_callTy (call_tupleK K) (by rfl) hB.b_tuple (by decide +kernel) (pa_cons (pe_lc (own := [("_law_d", 10)]) (g := gName 10) rfl sc_law.nd (pi_range2 (by rfl) hB.b_range (pa_cons pe_int (pa_cons (pe_addK K (pv 8) pe_int) pa_nil))) (blkOk_by (own := [("_law_d", 10)]) (by first | rfl | decide +kernel)) (fun _ _ _ _ _ => (pg_name (i := 10) sc_law.nd rfl (by first | exact Or.inl rfl | exact Or.inr rfl))) (fun _ _ _ _ _ => pts_one (pt_cmpR (op_eqK K hr.units) (pe_mulK K (pe_op op_fdiv (pv 8) (pv 10)) (pv 10)) (pv 8) (nomark _))) (fun _ _ _ _ _ => (pv 10))) pa_nil)) (nomark _)) (pss_one (ps_ret pe_bl)) pss_nil)
            (pss_cons (ps_for PassesOwn.never rfl (pi_seqK K (pe_lst (pa_cons pe_bl (pa_cons pe_bl (pa_cons pe_non (pa_cons pe_str (pa_cons (pe_tup (pa_cons pe_int pa_nil)) (pa_cons (pe_lst (pa_cons pe_int pa_nil)) (pa_cons (pe_tup pa_nil) pa_nil))))))))) (pg_name (i := 9) sc_law.nd rfl (by first | exact Or.inl rfl | exact Or.inr rfl)) (pss_one (ps_if (pt_cmpR op_notBl (pe_callD D_is_integer (hr.mono (by decide)) (by rfl) (pa_cons (pv 9) pa_nil)) pe_bl (nomark _)) (pss_one (ps_ret pe_bl)) pss_nil)))
            (pss_one (ps_ret (pe_cmpR op_isBl (pe_callD D_is_integer (hr.mono (by decide)) (by rfl) (pa_cons (pv 3) pa_nil)) pe_bl (nomark _)))))))))))))))), ?_⟩
    refine inP hv lv [.dat (.sls (ns.map D.int)), .any, .any, .any, .any, .any, .any, .any, .any, .any, .any] ?_
    refine rs_asgLR (el_call (ea_one (ev_var rfl)) ⟨ns, rfl, rfl⟩) ?_
    refine rs_asgR (ev_opR (R := fun d => ∃ p : Int, PR p ∧ d = .int p) (ev_lst (el_lst (ea_cons ev_int (ea_cons ev_int (ea_cons ev_int (ea_one ev_int)))))) (ev_callS (i := 1) rfl rfl rfl (ea_one ev_int) ⟨4, rfl, by decide, by decide, rfl⟩) fun x y ex ey => ?p) fun d hd => ?_
    case p =>
      obtain ⟨r, h1, h2, rfl⟩ := ey
      subst ex
      have : r = ((0 : Nat) : Int) ∨ r = ((1 : Nat) : Int) ∨ r = ((2 : Nat) : Int) ∨ r = ((3 : Nat) : Int) := by omega
      rcases this with e | e | e | e <;> subst e
      · exact (opv_ix (.inl rfl) (atI_nat rfl)).imp fun d e => ⟨2, .inl rfl, e⟩
      · exact (opv_ix (.inl rfl) (atI_nat rfl)).imp fun d e => ⟨3, .inr (.inl rfl), e⟩
      · exact (opv_ix (.inl rfl) (atI_nat rfl)).imp fun d e => ⟨5, .inr (.inr (.inl rfl)), e⟩
      · exact (opv_ix (.inl rfl) (atI_nat rfl)).imp fun d e => ⟨7, .inr (.inr (.inr rfl)), e⟩
    obtain ⟨p, hp, rfl⟩ := hd
    have hp0 := hp.pos
    have hp7 := hp.le
    refine rs_asgR (ev_opR (R := fun d => ∃ a : Int, -1000 ≤ a ∧ a ≤ 1000 ∧ d = .int a) (ev_callS (i := 1) rfl rfl rfl (ea_one ev_int) ⟨2001, rfl, by decide, by decide, rfl⟩) ev_int fun x y ex ey => ?a) fun d hd => ?_
    case a =>
      obtain ⟨r, h1, h2, rfl⟩ := ex
      subst ey
      exact opv_I0.imp fun d e => ⟨r - 1000, by omega, by omega, e⟩
    obtain ⟨a, ha1, ha2, rfl⟩ := hd
    refine rs_ifJ [.any, .own stOk, .dat (.int p), .dat (.int a), .any, .any, .any, .any, .any, .any, .any] (b := decide (a % p = 0)) (et_test (ev_op (ev_op (ev_cb (ea_one (ev_var rfl)) cav_int) (ev_var rfl) (opv_I hp0)) ev_int qv_int)) (fun c N hN => ?_) (fun c N hN => ?_) ?_
    · refine run_if (b := false) (et_test (Ev.to (ev_op (ev_call (ea_cons (ev_var rfl) (ea_one (ev_var rfl))) ⟨a, p, rfl, hp, by omega, by omega, of_decide_eq_true c, rfl⟩) (ev_tup (ea_cons ev_str (ea_one ev_str))) (nv_dat okRi okRi)) (by rw [eqv_rfl (okD_pl okRi)]; rfl))) (fun c => absurd c (by decide)) fun _ => Cont.weak hN (by walk_at "ks")
    · have hc := of_decide_eq_false c
      refine rs_asgR (ev_callN (ea_cons (ev_var rfl) (ea_one (ev_var rfl))) ⟨a, p, rfl, hp, by omega, by omega, rfl, rfl⟩ fun z hz => hc hz.1) fun d hd => ?_
      obtain ⟨_, rfl⟩ := hd
      obtain ⟨m1, m2, m3⟩ := mInv_ok hp hc
      refine run_if (b := false) (EvT.to (et_or (et_not (a := true) (et_test (ev_chain (a := true) ev_int (ev_var rfl) (opv_B0.imp fun d e => by rw [e, decide_eq_true (by omega)]) (fun _ => ⟨_, ev_var rfl, opv_B0.imp fun d e => by rw [e, decide_eq_true (by omega)]⟩) nofun))) fun _ => et_test (ev_op (ev_op (ev_cb (ea_one (ev_op (ev_var rfl) (ev_var rfl) (mv_int (cm_l (by omega))))) cav_int) (ev_var rfl) (opv_I hp0)) ev_int nv_int)) ?c) (fun c => absurd c (by decide)) fun _ => Cont.weak hN (by walk_at "ks")
      case c =>
        rw [m3]
        rfl
    refine rs_asgR (ev_callS (i := 1) rfl rfl rfl (ea_one ev_int) ⟨9, rfl, by decide, by decide, rfl⟩) fun d hd => ?_
    obtain ⟨r, hr1, hr2, rfl⟩ := hd
    obtain ⟨k, rfl⟩ := Int.eq_ofNat_of_zero_le hr1
    have hk : k ≤ 8 := by omega
    refine rs_asg ev_int ?_
    refine rs_for (ei_rng1 (ea_one (ev_var rfl)) (by omega)) (fun i => [.any, .own stOk, .dat (.int p), .dat (.int a), .any, .dat (.int (k : Int)), .dat (.int (a ^ i)), .any, .any, .any, .any]) (by rw [Int.pow_zero]; walk_at "ks") (fun i d h B G w => ?_) ?_
    · refine ⟨_, gb_name, ?_⟩
      exact run_asg (ev_op (ev_var rfl) (ev_var rfl) (mv_int (cm_r (by omega)))) (cont_nx1 (by rw [Int.pow_succ]; walk_at "ks"))
    rw [ups_length, Int.toNat_natCast]
    refine rs_if (b := false) (et_test (Ev.to (ev_op (ev_call (ea_cons (ev_var rfl) (ea_one (ev_var rfl))) ⟨a, k, rfl, by omega, by omega, by omega, rfl⟩) (ev_var rfl) nv_int) (by rw [decide_eq_true rfl]; rfl))) (fun c => absurd c (by decide)) fun _ => ?_
    refine rs_asgR (ev_opR (R := fun d => ∃ n : Nat, n ≤ 300 ∧ d = .int (n : Int)) ev_int (ev_callS (i := 1) rfl rfl rfl (ea_one ev_int) ⟨300, rfl, by decide, by decide, rfl⟩) fun x y ex ey => ?n) fun d hd => ?_
    case n =>
      obtain ⟨r, h1, h2, rfl⟩ := ey
      subst ex
      exact av_int.imp fun d e => ⟨(1 + r).toNat, by omega, by rw [e]; congr 1; omega⟩
    obtain ⟨n, hn, rfl⟩ := hd
    have hdo : okD (.tup (dvs n)) = true := (Pln.tup (n := 0) (Pln.map fun x _ => Pln.int _ 0)).ok
    refine rs_if (b := false) (et_test (Ev.to (ev_op (ev_call (ea_one (ev_var rfl)) ⟨n, rfl, by omega, rfl⟩) (ev_tuple (EvL.to (el_filt (xs := List.range n) (enc := fun k => .int (1 + (k : Nat))) (b := fun (k : Nat) => decide ((n : Int) / (1 + (k : Int)) * (1 + (k : Int)) = (n : Int))) (f := fun k => .int (1 + (k : Int))) (ei_to (ei_rng2 (ea_cons ev_int (ea_one (ev_op (ev_var rfl) ev_int av_int))) (by omega)) ?b1) (sz (by rw [List.length_range]; omega)) fun i hi => ⟨_, gw_name, et_test (ev_op (ev_op (ev_op (ev_var rfl) (ev_var rfl) (opv_I ?b2)) (ev_var rfl) (mv_int (cm_r ?b3))) (ev_var rfl) qv_int), fun _ => ev_var rfl⟩) (dvs_eq n).symm)) (nv_dat hdo hdo)) (by rw [eqv_rfl (okD_pl hdo)]; rfl))) (fun c => absurd c (by decide)) fun _ => ?_
    case b1 =>
      unfold ups
      rw [show ((n : Int) + 1 - 1).toNat = n by omega]
    case b2 =>
      have := List.mem_range.mp hi
      exact ⟨by omega, by omega⟩
    case b3 =>
      have := List.mem_range.mp hi
      omega
    refine rs_for (ei_seqL (ev_lst (el_lst (ds := vls) (ea_cons ev_bl (ea_cons ev_bl (ea_cons ev_non (ea_cons ev_str (ea_cons (ev_tup (ea_one ev_int)) (ea_cons (ev_lst (el_lst (ea_one ev_int))) (ea_one (ev_tup ea_nil))))))))))) (fun i => [.any, .own stOk, .dat (.int p), .dat (.int a), .any, .any, .any, .any, .any, .any, .any]) (by walk_at "ks") (fun i d h B G w => ?_) ?_
    · have hv := vls_not d (List.mem_of_getElem? h)
      refine ⟨_, gb_name, ?_⟩
      refine run_if (b := false) (et_test (Ev.to (ev_op (ev_call (ea_one (ev_var rfl)) ⟨_, rfl, hv.1, rfl⟩) ev_bl opv_notB) (by rw [hv.2]; rfl))) (fun c => absurd c (by decide)) fun _ => cont_nx1 (by walk_at "ks")
    exact run_retP q (Same.refl _) rfl rfl (ev_op (ev_call (ea_one (ev_var rfl)) ⟨_, rfl, by simp [okT, tyD], rfl⟩) ev_bl opv_isB) fun d e => by rw [e]; rfl
/-! ### the end -/
theorem all_mk {P : Program} {w : World} {K : PySem.W.Frag} {h : Heap} {mg : Str → Option Value} {fa f_is_integer f_power f_inverse f_divisors f__law_state f__law_take f__law_reason f_law C_Refused C_Fault f_Ref cc_Ref cda_Ref N_Ref C_Malformed C_NoText : Addr} (X : K.In h) (G : h.Ns mainGlobals mg) (hfa : mg "law" = some (.ref fa))
    (r_aM : PySem.W.nsIn K mainGlobals "Malformed" = some (some (.ref C_Malformed)))
    (r_aN : PySem.W.nsIn K mainGlobals "NoText" = some (some (.ref C_NoText)))
    {nm_R q_R file_R : Str} {bs_R sub_R : List Value} {sn_R : List Str} {ab_R : Bool} {col_R : Option Bool} {dd_R cld_R od_R cdd_R an_R : Option Addr} {m0_R m1_R m2_R m3_R m5_R : Option Value} {cl_R oc_R ccl_R kV_R dc_R pm_R ct_R : Value} {csl_R sl_R ccs_R : Array (Option Value)} {vs_R : Array Value} {tf_R : Tok}
    (r_aF : PySem.W.nsIn K mainGlobals "Fault" = some (some (.ref C_Fault)))
    (r_aC : PySem.W.nsIn K mainGlobals "Refused" = some (some (.ref C_Refused)))
    (r_xL : K.lookup C_Refused = some (excClassObj nm_R q_R C_Refused N_Ref bs_R [.ref C_Fault, .type "ValueError", .type "Exception", .type "BaseException", .type "object"] true sn_R sub_R ab_R col_R dd_R m0_R m1_R m2_R m3_R m5_R "ValueError.__new__"))
    (r_sa : PySem.W.findIn K (.ref C_Refused) "__setattr__" = some (some (.builtin "object.__setattr__")))
    (r_ga : PySem.W.findIn K (.ref C_Refused) "__getattribute__" = some (some (.builtin "BaseException.__getattribute__")))
    (r_gg : PySem.W.findIn K (.ref C_Refused) "__getattr__" = some none)
    (r_no : PySem.W.findIn K (.ref C_Refused) "reason" = some none)
    (r_eC : PySem.W.subIn K (.ref C_Refused) (.type "BaseException") = some true)
    (r_tC : PySem.W.typeIn K (.ref C_Refused) = some (.type "type"))
    (r_kC : PySem.W.keepIn K (.ref C_Refused) = true)
    (r_hd : PySem.W.hasDictIn K C_Refused = true)
    (r_iC : PySem.W.isClsIn K C_Refused = true)
    (r_ss : PySem.W.subIn K (.ref C_Refused) (.ref C_Refused) = some true)
    (r_i : PySem.W.findIn K (.ref C_Refused) "__init__" = some (some (.ref f_Ref)))
    (r_it : PySem.W.typeIn K (.ref f_Ref) = some (.type "function"))
    (r_l : K.lookup f_Ref = some ⟨oc_R, od_R, .func (PySem.W.ksFn "__init__" "Refused.__init__" (defArgs s_Ref) (defBody s_Ref) (defScope s_Ref) .none kV_R dc_R pm_R an_R (.ref cda_Ref) ct_R cc_Ref), sl_R⟩)
    (r_c : PySem.W.codeIn K (.ref cda_Ref) "Refused.__init__" = true)
    (r_cell : K.lookup cc_Ref = some ⟨cl_R, cld_R, .cell (some (.ref C_Refused)), csl_R⟩)
    (r_code : K.lookup cda_Ref = some ⟨ccl_R, cdd_R, .fields vs_R, ccs_R⟩)
    (r_vs : vs_R[2]? = some (.str file_R tf_R))
    (r_file : ((P.main.file : Str) == file_R) = true)
    (r_mro : PySem.W.mroIn K C_Refused (.ref C_Refused) = some true)
    (r_sup : PySem.W.ks_superIn K C_Refused C_Refused "__init__" = some (some (.builtin "ValueError.__init__")))
    (r_sub : PySem.W.subIn K (.ref C_Refused) (.type "ValueError") = some true)
    (r_opq : PySem.W.nsIn K cStatics "thirdparty.any" = some none)
    (r_zs : PySem.W.nsIn K mainGlobals "super" = some none)
    (r_top : (P.main.scope.names.lookup ("super" : Str)).isSome = false)
    (r_Fb : PySem.W.subIn K (.ref C_Fault) (.type "BaseException") = some true)
    (r_Fd : PySem.W.hasDictIn K C_Fault = true)
    (r_Ft : PySem.W.typeIn K (.ref C_Fault) = some (.type "type"))
    (r_Fs : PySem.W.subIn K (.ref C_Refused) (.ref C_Fault) = some true)
    (r_rm : PySem.W.subIn K (.ref C_Refused) (.ref C_Malformed) = some false)
    (r_rn : PySem.W.subIn K (.ref C_Refused) (.ref C_NoText) = some false)
    (r_tM : PySem.W.typeIn K (.ref C_Malformed) = some (.type "type"))
    (r_tN : PySem.W.typeIn K (.ref C_NoText) = some (.type "type"))
    (r_iM : PySem.W.isClsIn K C_Malformed = true)
    (r_iN : PySem.W.isClsIn K C_NoText = true)
    (r_ha : PySem.W.findIn K (.ref C_Refused) "__class__" = some (some (.builtin "object.__class__")))
    (q_hn : PySem.W.specialIn K (.builtin "object.__class__") "__get__" = some (some (.builtin "getset_descriptor.__get__")))
    (q_htk : PySem.W.takesIn K (.builtin "object.__class__") = some true)
    (r_hm : PySem.W.mroIn K C_Refused (.type "object") = some true)
    {od0 an0 : Option Addr} {sl0 : Array (Option Value)} {oc0 kV0 dc0 pm0 cd0 ct0 : Value}
    (a0 : PySem.W.nsIn K mainGlobals "is_integer" = some (some (.ref f_is_integer))) (l0 : K.lookup f_is_integer = some ⟨oc0, od0, .func (PySem.W.fnOf "is_integer" "is_integer" (defArgs s_is_integer) (defBody s_is_integer) (defScope s_is_integer) .none kV0 dc0 pm0 an0 cd0 ct0), sl0⟩) (c0 : PySem.W.codeIn K cd0 "is_integer" = true) (k0 : PySem.W.keepIn K (.ref f_is_integer) = true)
    {od1 an1 : Option Addr} {sl1 : Array (Option Value)} {oc1 kV1 dc1 pm1 cd1 ct1 : Value}
    (a1 : PySem.W.nsIn K mainGlobals "power" = some (some (.ref f_power))) (l1 : K.lookup f_power = some ⟨oc1, od1, .func (PySem.W.fnOf "power" "power" (defArgs s_power) (defBody s_power) (defScope s_power) .none kV1 dc1 pm1 an1 cd1 ct1), sl1⟩) (c1 : PySem.W.codeIn K cd1 "power" = true) (k1 : PySem.W.keepIn K (.ref f_power) = true)
    {od2 an2 : Option Addr} {sl2 : Array (Option Value)} {oc2 kV2 dc2 pm2 cd2 ct2 : Value}
    (a2 : PySem.W.nsIn K mainGlobals "inverse" = some (some (.ref f_inverse))) (l2 : K.lookup f_inverse = some ⟨oc2, od2, .func (PySem.W.fnOf "inverse" "inverse" (defArgs s_inverse) (defBody s_inverse) (defScope s_inverse) .none kV2 dc2 pm2 an2 cd2 ct2), sl2⟩) (c2 : PySem.W.codeIn K cd2 "inverse" = true) (k2 : PySem.W.keepIn K (.ref f_inverse) = true)
    {od3 an3 : Option Addr} {sl3 : Array (Option Value)} {oc3 kV3 dc3 pm3 cd3 ct3 : Value}
    (a3 : PySem.W.nsIn K mainGlobals "divisors" = some (some (.ref f_divisors))) (l3 : K.lookup f_divisors = some ⟨oc3, od3, .func (PySem.W.fnOf "divisors" "divisors" (defArgs s_divisors) (defBody s_divisors) (defScope s_divisors) .none kV3 dc3 pm3 an3 cd3 ct3), sl3⟩) (c3 : PySem.W.codeIn K cd3 "divisors" = true) (k3 : PySem.W.keepIn K (.ref f_divisors) = true)
    {od4 an4 : Option Addr} {sl4 : Array (Option Value)} {oc4 kV4 dc4 pm4 cd4 ct4 : Value}
    (a4 : PySem.W.nsIn K mainGlobals "_law_state" = some (some (.ref f__law_state))) (l4 : K.lookup f__law_state = some ⟨oc4, od4, .func (PySem.W.fnOf "_law_state" "_law_state" (defArgs s__law_state) (defBody s__law_state) (defScope s__law_state) .none kV4 dc4 pm4 an4 cd4 ct4), sl4⟩) (c4 : PySem.W.codeIn K cd4 "_law_state" = true) (k4 : PySem.W.keepIn K (.ref f__law_state) = true)
    {od5 an5 : Option Addr} {sl5 : Array (Option Value)} {oc5 kV5 dc5 pm5 cd5 ct5 : Value}
    (a5 : PySem.W.nsIn K mainGlobals "_law_take" = some (some (.ref f__law_take))) (l5 : K.lookup f__law_take = some ⟨oc5, od5, .func (PySem.W.fnOf "_law_take" "_law_take" (defArgs s__law_take) (defBody s__law_take) (defScope s__law_take) .none kV5 dc5 pm5 an5 cd5 ct5), sl5⟩) (c5 : PySem.W.codeIn K cd5 "_law_take" = true) (k5 : PySem.W.keepIn K (.ref f__law_take) = true)
    {od6 an6 : Option Addr} {sl6 : Array (Option Value)} {oc6 kV6 dc6 pm6 cd6 ct6 : Value}
    (a6 : PySem.W.nsIn K mainGlobals "_law_reason" = some (some (.ref f__law_reason))) (l6 : K.lookup f__law_reason = some ⟨oc6, od6, .func (PySem.W.fnOf "_law_reason" "_law_reason" (defArgs s__law_reason) (defBody s__law_reason) (defScope s__law_reason) .none kV6 dc6 pm6 an6 cd6 ct6), sl6⟩) (c6 : PySem.W.codeIn K cd6 "_law_reason" = true) (k6 : PySem.W.keepIn K (.ref f__law_reason) = true)
    {od7 an7 : Option Addr} {sl7 : Array (Option Value)} {oc7 kV7 dc7 pm7 cd7 ct7 : Value}
    (a7 : PySem.W.nsIn K mainGlobals "law" = some (some (.ref f_law))) (l7 : K.lookup f_law = some ⟨oc7, od7, .func (PySem.W.fnOf "law" "law" (defArgs s_law) (defBody s_law) (defScope s_law) .none kV7 dc7 pm7 an7 cd7 ct7), sl7⟩) (c7 : PySem.W.codeIn K cd7 "law" = true) (k7 : PySem.W.keepIn K (.ref f_law) = true)
    (z_isinstance : PySem.W.nsIn K mainGlobals "isinstance" = some none)
    (z_int : PySem.W.nsIn K mainGlobals "int" = some none)
    (z_bool : PySem.W.nsIn K mainGlobals "bool" = some none)
    (z_range : PySem.W.nsIn K mainGlobals "range" = some none)
    (z_tuple : PySem.W.nsIn K mainGlobals "tuple" = some none)
    (z_abs : PySem.W.nsIn K mainGlobals "abs" = some none)
    (z_ValueError : PySem.W.nsIn K mainGlobals "ValueError" = some none)
    : ∃ fd : FuncData, (∀ (s : Shared) (v : Value), BindsTo s fd ⟨[v], []⟩ [("_law_script", v)]) ∧ ∀ base : Heap, K.In base → base.Ns mainGlobals mg → FnOk P w K mg base (L2.CX P w) 5 fa fd ["_law_script"] (spec_law K) := by
  have e := hfa.symm.trans (PySem.W.mg_of X G a7)
  cases e
  have hB : Bl mg := ⟨PySem.W.mg_none_of X G z_isinstance, PySem.W.mg_none_of X G z_int, PySem.W.mg_none_of X G z_bool, PySem.W.mg_none_of X G z_range, PySem.W.mg_none_of X G z_tuple, PySem.W.mg_none_of X G z_abs, PySem.W.mg_none_of X G z_ValueError⟩
  have g_Ref := PySem.W.mg_of X G r_aC
  have e_Ref := clsA_of r_aC
  subst e_Ref
  have oexR : L2.OexC K (clsA K "Refused") := ⟨⟨_, _, _, _, _, _, _, _, _, _, _, _, _, _, _, r_xL, rfl⟩, r_sa, r_eC, r_tC, r_kC⟩
  have hRf : Rf0 K mg := by
    have e_F := clsA_of r_aF
    have e_M := clsA_of r_aM
    have e_N := clsA_of r_aN
    subst e_F
    subst e_M
    subst e_N
    exact ⟨g_Ref, PySem.W.mg_of X G r_aF, PySem.W.mg_of X G r_aM, PySem.W.mg_of X G r_aN, ⟨r_ga, r_gg, r_eC, r_hd⟩, r_no, oexR, PySem.W.exm_ref r_Fb r_Fd r_Ft r_Fs, kit_tyT (by decide) r_sub, kit_refF r_iM r_tM r_ss r_rm, kit_refF r_iN r_tN r_ss r_rn, r_iC, r_ha, q_hn, q_htk, r_hm⟩
  have F_is_integer := fun_mk (st := s_is_integer) l0 c0 k0
  have F_power := fun_mk (st := s_power) l1 c1 k1
  have F_inverse := fun_mk (st := s_inverse) l2 c2 k2
  have F_divisors := fun_mk (st := s_divisors) l3 c3 k3
  have F__law_state := fun_mk (st := s__law_state) l4 c4 k4
  have F__law_take := fun_mk (st := s__law_take) l5 c5 k5
  have F__law_reason := fun_mk (st := s__law_reason) l6 c6 k6
  have F_law := fun_mk (st := s_law) l7 c7 k7
  refine ⟨PySem.W.fnOf "law" "law" (defArgs s_law) (defBody s_law) (defScope s_law) .none kV7 dc7 pm7 an7 cd7 ct7, fun s v => .of_eq rfl, fun base _ _ => ?_⟩
  have X_Refused : RefX P w K mg base "Refused" "reason" 1 := ⟨oexR, g_Ref, r_no, f_Ref, _, ["self", "reason"], r_i, r_it, ok_Ref ⟨oexR, ⟨_, _, _, r_cell⟩, ⟨_, _, _, r_l⟩, ⟨_, rfl, rfl⟩, ⟨_, _, _, _, _, _, r_code, r_vs, r_file⟩, Option.isSome_iff_exists.mp r_iC, r_mro, r_sup, r_sub, r_opq, PySem.W.mg_none_of X G r_zs, r_top⟩ r_c, .all fun us hl => match us, hl with | [_, _], _ => rfl⟩
  have D_is_integer : Df P w K mg base "is_integer" 1 ["value"] (spec_is_integer K) := ⟨_, _, ok_is_integer hB hRf  F_is_integer, PySem.W.mg_of X G a0, k0, F_is_integer.binds (ps := ["value"]) fun _ _ _ _ _ _ us hl => match us, hl with | [_], _ => rfl⟩
  have D_power : Df P w K mg base "power" 1 ["a", "k"] (spec_power K) := ⟨_, _, ok_power hB hRf  F_power, PySem.W.mg_of X G a1, k1, F_power.binds (ps := ["a", "k"]) fun _ _ _ _ _ _ us hl => match us, hl with | [_, _], _ => rfl⟩
  have D_inverse : Df P w K mg base "inverse" 3 ["a", "p"] (spec_inverse K) := ⟨_, _, ok_inverse hB hRf X_Refused F_inverse, PySem.W.mg_of X G a2, k2, F_inverse.binds (ps := ["a", "p"]) fun _ _ _ _ _ _ us hl => match us, hl with | [_, _], _ => rfl⟩
  have D_divisors : Df P w K mg base "divisors" 1 ["n"] (spec_divisors K) := ⟨_, _, ok_divisors hB hRf  F_divisors, PySem.W.mg_of X G a3, k3, F_divisors.binds (ps := ["n"]) fun _ _ _ _ _ _ us hl => match us, hl with | [_], _ => rfl⟩
  have D__law_state : Df P w K mg base "_law_state" 1 ["_law_script"] (spec__law_state K) := ⟨_, _, ok__law_state hB hRf  F__law_state, PySem.W.mg_of X G a4, k4, F__law_state.binds (ps := ["_law_script"]) fun _ _ _ _ _ _ us hl => match us, hl with | [_], _ => rfl⟩
  have D__law_take : Df P w K mg base "_law_take" 1 ["_law_state_here", "_law_m"] (spec__law_take K) := ⟨_, _, ok__law_take hB hRf  F__law_take, PySem.W.mg_of X G a5, k5, F__law_take.binds (ps := ["_law_state_here", "_law_m"]) fun _ _ _ _ _ _ us hl => match us, hl with | [_, _], _ => rfl⟩
  have D__law_reason : Df P w K mg base "_law_reason" 4 ["_law_a", "_law_p"] (spec__law_reason K) := ⟨_, _, ok__law_reason hB hRf D_inverse F__law_reason, PySem.W.mg_of X G a6, k6, F__law_reason.binds (ps := ["_law_a", "_law_p"]) fun _ _ _ _ _ _ us hl => match us, hl with | [_, _], _ => rfl⟩
  exact ok_law hB hRf D_is_integer D_divisors D__law_take D_power D__law_reason D_inverse D__law_state F_law
end Dl
open PySem PySem.W PyProof.Rows
set_option maxRecDepth 100000 in
set_option maxHeartbeats 0 in
theorem PySem.Challenge.cw_algebraparts_k00_numbers_holds : PySem.Challenge.rw_algebraparts_k00_numbers.Holds := by
  w_on; o_law; k_head; (case hw => w_witness2)
  k_fill
  refine L2.walk_of (l := PySem.Challenge.rw_algebraparts_k00_numbers) (n := 63) (k := 5) (x := "_law_script") (CX := fun w => L2.CX (PySem.Challenge.rw_algebraparts_k00_numbers).prog w) (sp := fun w => Dl.spec_law _) rfl (by decide) rfl ⟨rfl, by decide, by decide⟩ (fun w h Y => PySem.W.kIn_of Y) ?F (fun _ H a ns _ _ hS => ⟨[], [.sls (ns.map Dl.D.int)], _, .cons (.sls hS (Dl.Ats.ofInts ns)) .nil, (fun _ z => nomatch z), ⟨ns, rfl, rfl⟩, fun d v H2 e _ a2 => by subst e; cases a2; rfl⟩) (fun _ _ _ _ _ z => by obtain ⟨_, _, _, _, _, _, _, _, _, _, _, _, z⟩ := z; exact z)
  case F =>
    intro w mg fa h KX G hmg
    refine' Dl.all_mk KX G hmg ?r_aM ?r_aN ?r_aF ?r_aC ?r_xL ?r_sa ?r_ga ?r_gg ?r_no ?r_eC ?r_tC ?r_kC ?r_hd ?r_iC ?r_ss ?r_i ?r_it ?r_l ?r_c ?r_cell ?r_code ?r_vs ?r_file ?r_mro ?r_sup ?r_sub ?r_opq ?r_zs ?r_top ?r_Fb ?r_Fd ?r_Ft ?r_Fs ?r_rm ?r_rn ?r_tM ?r_tN ?r_iM ?r_iN ?r_ha ?q_hn ?q_htk ?r_hm ?a0 ?l0 ?c0 ?k0 ?a1 ?l1 ?c1 ?k1 ?a2 ?l2 ?c2 ?k2 ?a3 ?l3 ?c3 ?k3 ?a4 ?l4 ?c4 ?k4 ?a5 ?l5 ?c5 ?k5 ?a6 ?l6 ?c6 ?k6 ?a7 ?l7 ?c7 ?k7 ?z_isinstance ?z_int ?z_bool ?z_range ?z_tuple ?z_abs ?z_ValueError 
    (case r_aM => k_is)
    (case r_aN => k_is)
    (case r_aF => k_is)
    (case r_aC => k_is)
    (case r_xL => k_is)
    (case r_sa => k_is)
    (case r_ga => k_is)
    (case r_gg => k_is)
    (case r_no => k_is)
    (case r_eC => k_is)
    (case r_tC => k_is)
    (case r_kC => k_is)
    (case r_hd => k_is)
    (case r_iC => k_is)
    (case r_ss => k_is)
    (case r_i => k_is)
    (case r_it => k_is)
    (case r_l => k_is)
    (case r_c => k_is)
    (case r_cell => k_is)
    (case r_code => k_is)
    (case r_vs => (first | rfl | decide))
    (case r_file => (first | rfl | decide))
    (case r_mro => (first | k_is | kernel_rfl))
    (case r_sup => kernel_rfl)
    (case r_sub => k_is)
    (case r_opq => (first | k_is | kernel_rfl))
    (case r_zs => k_is)
    (case r_top => (first | rfl | decide))
    (case r_Fb => k_is)
    (case r_Fd => k_is)
    (case r_Ft => k_is)
    (case r_Fs => k_is)
    (case r_rm => k_is)
    (case r_rn => k_is)
    (case r_tM => k_is)
    (case r_tN => k_is)
    (case r_iM => k_is)
    (case r_iN => k_is)
    (case r_ha => k_is)
    (case q_hn => (first | k_is | kernel_rfl))
    (case q_htk => (first | k_is | kernel_rfl))
    (case r_hm => k_is)
    (case a0 => k_is)
    (case l0 => k_is)
    (case c0 => k_is)
    (case k0 => k_is)
    (case a1 => k_is)
    (case l1 => k_is)
    (case c1 => k_is)
    (case k1 => k_is)
    (case a2 => k_is)
    (case l2 => k_is)
    (case c2 => k_is)
    (case k2 => k_is)
    (case a3 => k_is)
    (case l3 => k_is)
    (case c3 => k_is)
    (case k3 => k_is)
    (case a4 => k_is)
    (case l4 => k_is)
    (case c4 => k_is)
    (case k4 => k_is)
    (case a5 => k_is)
    (case l5 => k_is)
    (case c5 => k_is)
    (case k5 => k_is)
    (case a6 => k_is)
    (case l6 => k_is)
    (case c6 => k_is)
    (case k6 => k_is)
    (case a7 => k_is)
    (case l7 => k_is)
    (case c7 => k_is)
    (case k7 => k_is)
    (case z_isinstance => k_is)
    (case z_int => k_is)
    (case z_bool => k_is)
    (case z_range => k_is)
    (case z_tuple => k_is)
    (case z_abs => k_is)
    (case z_ValueError => k_is)
