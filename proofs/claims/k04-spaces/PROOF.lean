import PyProof.Rows.All
import Wide.All
import OpenK.AllK
import Wide.FinOn
import HandS.ForMost
import HandS.ForExc
import HandS.Zip
import HandS.Conv
import HandS.TupAny
import HandS.TupMul
import HandS.IsInst
import HandS.Deep
import HandS.Style
import HandS.SortInts
import KE.SortData
import HandS.Iter
import KE.GoesZip
import KE.GoesEnum
import KE.GoesMore
import HandS.GenOver
import HandS.GenBody
import HandS.GenYield
import HandS.GenList
import HandS.Comp
import PySem.Challenge.RW_algebraparts_k04_whole_spaces
set_option Elab.async false
set_option linter.all false
set_option maxRecDepth 100000
set_option maxHeartbeats 4000000
/-! Dl: a layer of data over HandS: what a def's names hold as plain data, lists of its own that it changes, what each construct makes of that. -/
namespace Dl
open PySem PySem.Spec PyProof.Rows L2

abbrev Sg := L2.St

inductive D where
  | non
  | bl (b : Bool)
  | int (i : Int)
  | str (x : Str)
  | lst (ds : List D)
  | sls (ds : List D)
  | tup (ds : List D)
  | raw (v : V)
  | ins (C : Addr) (fs : List (Str × D))

/-! ### heaps with some places hidden -/
def hid (M : List Addr) (H : Hp) : Hp := fun a => if a ∈ M then none else H a
theorem hid_in {M : List Addr} {H : Hp} {a : Addr} (h : a ∈ M) : hid M H a = none := by unfold hid; rw [if_pos h]
theorem hid_out {M : List Addr} {H : Hp} {a : Addr} (h : a ∉ M) : hid M H a = H a := by unfold hid; rw [if_neg h]
theorem hid_some {M : List Addr} {H : Hp} {a : Addr} {o : HO} (h : hid M H a = some o) : a ∉ M ∧ H a = some o := by
  by_cases e : a ∈ M
  · rw [hid_in e] at h; cases h
  · rw [hid_out e] at h; exact ⟨e, h⟩
theorem hid_same {M : List Addr} {H : Hp} : Same (hid M H) H := fun a o h => (hid_some h).2
theorem hid_mono {M : List Addr} {H H' : Hp} (e : Same H H') : Same (hid M H) (hid M H') := fun a o h => by
  obtain ⟨h1, h2⟩ := hid_some h
  rw [hid_out h1]
  exact e a o h2
theorem hid_sub {M M' : List Addr} {H : Hp} (e : ∀ a ∈ M, a ∈ M') : Same (hid M' H) (hid M H) := fun a o h => by
  obtain ⟨h1, h2⟩ := hid_some h
  rw [hid_out fun z => h1 (e a z)]
  exact h2
theorem hid_nil {H : Hp} : hid [] H = H := by
  funext a
  exact hid_out (by simp)
theorem hid_upd {M : List Addr} {H : Hp} {a : Addr} {o : HO} (h : a ∈ M) : hid M (upd H a o) = hid M H := by
  funext b
  by_cases e : b ∈ M
  · rw [hid_in e, hid_in e]
  · rw [hid_out e, hid_out e, upd_ne (fun z => e (by rw [z]; exact h))]
theorem hid_new {M : List Addr} {H : Hp} {a : Addr} {o : HO} (h : H a = none) : hid (a :: M) (upd H a o) = hid M H := by
  funext b
  by_cases e : b = a
  · rw [e, hid_in List.mem_cons_self]
    by_cases e2 : a ∈ M
    · rw [hid_in e2]
    · rw [hid_out e2, h]
  · by_cases e2 : b ∈ M
    · rw [hid_in (List.mem_cons_of_mem _ e2), hid_in e2]
    · rw [hid_out e2, hid_out (by simp only [List.mem_cons, not_or]; exact ⟨e, e2⟩), upd_ne e]
theorem same_new {H : Hp} {p : Addr} {o : HO} (h : H p = none) : Same H (upd H p o) := fun a u e => by
  rw [upd_ne (ne_of_none e h)]
  exact e
theorem same_mut {H H' : Hp} {p : Addr} {o : HO} (e : Same H H') (h : H p = none) : Same H (upd H' p o) := fun a u ha => by
  rw [upd_ne (ne_of_none ha h)]
  exact e a u ha
theorem same_rd {H H' : Hp} {a : Addr} {u : HO} (e : Same H H') (h : Rd H a u) : Rd H' a u := by
  rcases h with h | ⟨o, h⟩
  · exact .inl (e a _ h)
  · exact .inr ⟨o, e a _ h⟩
theorem same_l {K : PySem.W.Frag} {H H' : Hp} {a : Addr} {xs : List V} (e : Same H H') (h : SqL K H a xs) : SqL K H' a xs := by
  rcases h with h | h
  · exact .inl (same_rd e h)
  · exact .inr h
theorem same_t {K : PySem.W.Frag} {H H' : Hp} {a : Addr} {xs : List V} (e : Same H H') (h : SqT K H a xs) : SqT K H' a xs := by
  rcases h with h | h
  · exact .inl (same_rd e h)
  · exact .inr h

/-! ### data at a value -/
mutual
inductive At (K : PySem.W.Frag) (H : Hp) : V → D → Prop
  | non : At K H .non .non
  | bl (b : Bool) : At K H (.bl b) (.bl b)
  | int (i : Int) : At K H (.int i) (.int i)
  | str (x : Str) : At K H (.str x) (.str x)
  | lst {a : Addr} {xs : List V} {ds : List D} : H a = some (.lst xs) → Ats K H xs ds → At K H (.ref a) (.lst ds)
  | sls {a : Addr} {xs : List V} {ds : List D} : SqL K H a xs → Ats K H xs ds → At K H (.ref a) (.sls ds)
  | raw (v : V) : At K H v (.raw v)
  | tup {a : Addr} {xs : List V} {ds : List D} : SqT K H a xs → Ats K H xs ds → At K H (.ref a) (.tup ds)
  | ins {a C dx : Addr} {fs : List (Str × V)} {gs : List (Str × D)} : H a = some (.ins C dx fs) → H dx = some (.own a) → AtF K H fs gs → At K H (.ref a) (.ins C gs)
inductive Ats (K : PySem.W.Frag) (H : Hp) : List V → List D → Prop
  | nil : Ats K H [] []
  | cons {v : V} {vs : List V} {d : D} {ds : List D} : At K H v d → Ats K H vs ds → Ats K H (v :: vs) (d :: ds)
inductive AtF (K : PySem.W.Frag) (H : Hp) : List (Str × V) → List (Str × D) → Prop
  | nil : AtF K H [] []
  | cons {x : Str} {v : V} {vs : List (Str × V)} {d : D} {ds : List (Str × D)} : At K H v d → AtF K H vs ds → AtF K H ((x, v) :: vs) ((x, d) :: ds)
end
section
variable {K : PySem.W.Frag} {H H' : Hp}
mutual
theorem At.mono (e : Same H H') : ∀ {v : V} {d : D}, At K H v d → At K H' v d
  | _, _, .non => .non
  | _, _, .bl b => .bl b
  | _, _, .int i => .int i
  | _, _, .str x => .str x
  | _, _, .lst h hs => .lst (e _ _ h) (Ats.mono e hs)
  | _, _, .sls h hs => .sls (same_l e h) (Ats.mono e hs)
  | _, _, .raw v => .raw v
  | _, _, .tup h hs => .tup (same_t e h) (Ats.mono e hs)
  | _, _, .ins h h2 hs => .ins (e _ _ h) (e _ _ h2) (AtF.mono e hs)
theorem Ats.mono (e : Same H H') : ∀ {vs : List V} {ds : List D}, Ats K H vs ds → Ats K H' vs ds
  | _, _, .nil => .nil
  | _, _, .cons h hs => .cons (At.mono e h) (Ats.mono e hs)
theorem AtF.mono (e : Same H H') : ∀ {vs : List (Str × V)} {ds : List (Str × D)}, AtF K H vs ds → AtF K H' vs ds
  | _, _, .nil => .nil
  | _, _, .cons h hs => .cons (At.mono e h) (AtF.mono e hs)
end
theorem Ats.length : ∀ {vs : List V} {ds : List D}, Ats K H vs ds → vs.length = ds.length
  | _, _, .nil => rfl
  | _, _, .cons _ h => congrArg (· + 1) h.length
theorem Ats.get : ∀ {vs : List V} {ds : List D} {i : Nat} {d : D}, Ats K H vs ds → ds[i]? = some d → ∃ v, vs[i]? = some v ∧ At K H v d
  | _, _, _, _, .nil, e => by simp at e
  | _, _, 0, _, .cons r _, e => by simp at e; subst e; exact ⟨_, rfl, r⟩
  | _, _, i + 1, d, .cons _ t, e => by
    obtain ⟨v, h1, h2⟩ := Ats.get (i := i) (d := d) t (by simpa using e)
    exact ⟨v, by simpa using h1, h2⟩
theorem Ats.getV : ∀ {vs : List V} {ds : List D} {i : Nat} {v : V}, Ats K H vs ds → vs[i]? = some v → ∃ d, ds[i]? = some d ∧ At K H v d
  | _, _, _, _, .nil, e => by simp at e
  | _, _, 0, _, .cons r _, e => by simp at e; subst e; exact ⟨_, rfl, r⟩
  | _, _, i + 1, v, .cons _ t, e => by
    obtain ⟨d, h1, h2⟩ := Ats.getV (i := i) (v := v) t (by simpa using e)
    exact ⟨d, by simpa using h1, h2⟩
theorem Ats.append : ∀ {vs ws : List V} {ds es : List D}, Ats K H vs ds → Ats K H ws es → Ats K H (vs ++ ws) (ds ++ es)
  | _, _, _, _, .nil, h => h
  | _, _, _, _, .cons a b, h => .cons a (Ats.append b h)
theorem Ats.set : ∀ {vs : List V} {ds : List D} {v : V} {d : D} (i : Nat), Ats K H vs ds → At K H v d → Ats K H (vs.set i v) (ds.set i d)
  | _, _, _, _, _, .nil, _ => .nil
  | _, _, _, _, 0, .cons _ b, h => .cons h b
  | _, _, _, _, i + 1, .cons a b, h => .cons a (Ats.set i b h)
theorem Ats.take : ∀ {vs : List V} {ds : List D} (n : Nat), Ats K H vs ds → Ats K H (vs.take n) (ds.take n)
  | _, _, 0, _ => .nil
  | _, _, _ + 1, .nil => .nil
  | _, _, n + 1, .cons a b => .cons a (Ats.take n b)
theorem Ats.drop : ∀ {vs : List V} {ds : List D} (n : Nat), Ats K H vs ds → Ats K H (vs.drop n) (ds.drop n)
  | _, _, 0, h => h
  | _, _, _ + 1, .nil => .nil
  | _, _, n + 1, .cons _ b => Ats.drop n b
theorem Ats.eraseIdx : ∀ {vs : List V} {ds : List D} (n : Nat), Ats K H vs ds → Ats K H (vs.eraseIdx n) (ds.eraseIdx n)
  | _, _, _, .nil => .nil
  | _, _, 0, .cons _ b => b
  | _, _, n + 1, .cons a b => .cons a (Ats.eraseIdx n b)
theorem Ats.reverse : ∀ {vs : List V} {ds : List D}, Ats K H vs ds → Ats K H vs.reverse ds.reverse
  | _, _, .nil => .nil
  | _, _, .cons a b => by
    rw [List.reverse_cons, List.reverse_cons]
    exact Ats.append (Ats.reverse b) (.cons a .nil)
theorem Ats.rep {v : V} {d : D} (h : At K H v d) : ∀ n : Nat, Ats K H (List.replicate n v) (List.replicate n d)
  | 0 => .nil
  | n + 1 => .cons h (Ats.rep h n)
theorem Ats.ints : ∀ {vs : List V} {ns : List Int}, Ats K H vs (ns.map D.int) → vs = ns.map V.int
  | vs, [], h => by cases h; rfl
  | vs, n :: ns, h => by
    cases h with
    | cons a b =>
      cases a
      rw [Ats.ints b]
      rfl
theorem Ats.ofInts : ∀ ns : List Int, Ats K H (ns.map V.int) (ns.map D.int)
  | [] => .nil
  | n :: ns => .cons (.int n) (Ats.ofInts ns)
theorem Ats.ofBools : ∀ ns : List Bool, Ats K H (ns.map V.bl) (ns.map D.bl)
  | [] => .nil
  | n :: ns => .cons (.bl n) (Ats.ofBools ns)
theorem AtF.lookup {f : Str} : ∀ {vs : List (Str × V)} {ds : List (Str × D)} {d : D}, AtF K H vs ds → ds.lookup f = some d → ∃ v, vs.lookup f = some v ∧ At K H v d
  | _, _, _, .nil, e => by simp [List.lookup] at e
  | _, _, d, .cons (x := x) a b, e => by
    unfold List.lookup at e ⊢
    cases q : (f == x) with
    | true =>
      rw [q] at e
      cases e
      exact ⟨_, rfl, a⟩
    | false =>
      rw [q] at e
      exact AtF.lookup b e
theorem AtF.none {f : Str} : ∀ {vs : List (Str × V)} {ds : List (Str × D)}, AtF K H vs ds → ds.lookup f = Option.none → vs.lookup f = Option.none
  | _, _, .nil, e => by simp [List.lookup]
  | _, _, .cons (x := x) a b, e => by
    unfold List.lookup at e ⊢
    cases q : (f == x) with
    | true =>
      rw [q] at e
      cases e
    | false =>
      rw [q] at e
      exact AtF.none b e
end

/-! ### what the names hold -/
inductive Kd where
  | any
  | dat (d : D)
  | own (φ : List D → Prop)
  | bor (φ : List D → Prop)
  | nst (φ : List (List D) → Prop)
/-- the frame: what is written, what stood at the entry, what stays seen, what is hidden by the caller -/
structure Fm where
  K : PySem.W.Frag
  B : Hp
  G : Hp
  M0 : List Addr
/-- a slot's list that this def may change -/
def Has (F : Fm) (M : List Addr) (H : Hp) (x : Option (Option V)) (p : Addr) (φ : List D → Prop) : Prop :=
  x = some (some (.ref p)) ∧ p ∈ M ∧ F.B p = none ∧ ∃ vs ds, H p = some (.lst vs) ∧ Ats F.K (hid M H) vs ds ∧ φ ds
def isM : Kd → Bool
  | .own _ => true
  | .bor _ => true
  | _ => false
/-- kinds of lists that may change -/
def isT : Kd → Bool
  | .own _ => true
  | .bor _ => true
  | .nst _ => true
  | _ => false
theorem isT_of {k : Kd} (h : isM k = true) : isT k = true := by cases k <;> first | rfl | cases h
/-- the lists that may change -/
def OwnA (ks : List Kd) (σ : Sg) (a : Addr) : Prop := ∃ (i : Nat) (k : Kd), ks[i]? = some k ∧ isM k = true ∧ σ[i]? = some (some (.ref a))
/-- lists of lists that may change, with their items -/
inductive Rows (K : PySem.W.Frag) (M : List Addr) (H : Hp) : List Addr → List (List D) → Prop
  | nil : Rows K M H [] []
  | cons {q : Addr} {qs : List Addr} {vs : List V} {r : List D} {rs : List (List D)} : H q = some (.lst vs) → Ats K (hid M H) vs r → Rows K M H qs rs → Rows K M H (q :: qs) (r :: rs)
theorem Rows.to {K : PySem.W.Frag} {M M' : List Addr} {H H' : Hp} {qs : List Addr} {rs : List (List D)} (h : Rows K M H qs rs) (k : ∀ a ∈ qs, ∀ o, H a = some o → H' a = some o) (s : Same (hid M H) (hid M' H')) : Rows K M' H' qs rs := by
  induction h with
  | nil => exact .nil
  | cons h1 h2 _ ih => exact .cons (k _ List.mem_cons_self _ h1) (h2.mono s) (ih fun a ha => k a (List.mem_cons_of_mem _ ha))
theorem Rows.live {K : PySem.W.Frag} {M : List Addr} {H : Hp} {qs : List Addr} {rs : List (List D)} (h : Rows K M H qs rs) : ∀ a ∈ qs, ∃ o, H a = some o := by
  induction h with
  | nil => exact fun a h => nomatch h
  | cons h1 _ _ ih =>
    intro a ha
    rcases List.mem_cons.mp ha with e | e
    · exact ⟨_, by rw [e]; exact h1⟩
    · exact ih a e
theorem Rows.length {K : PySem.W.Frag} {M : List Addr} {H : Hp} {qs : List Addr} {rs : List (List D)} (h : Rows K M H qs rs) : qs.length = rs.length := by
  induction h with
  | nil => rfl
  | cons _ _ _ ih => rw [List.length_cons, List.length_cons, ih]
structure Nes (F : Fm) (M : List Addr) (H : Hp) (x : Option (Option V)) (p : Addr) (qs : List Addr) (φ : List (List D) → Prop) : Prop where
  at_ : x = some (some (.ref p))
  nd : (p :: qs).Nodup
  mem : ∀ a ∈ p :: qs, a ∈ M ∧ a ∉ F.M0 ∧ F.B a = none
  top : H p = some (.lst (qs.map V.ref))
  rows : ∃ rows, Rows F.K M H qs rows ∧ φ rows
theorem Nes.live {F : Fm} {M : List Addr} {H : Hp} {x : Option (Option V)} {p : Addr} {qs : List Addr} {φ : List (List D) → Prop} (n : Nes F M H x p qs φ) : ∀ a ∈ p :: qs, ∃ o, H a = some o := fun a ha => by
  obtain ⟨rs, h1, _⟩ := n.rows
  rcases List.mem_cons.mp ha with e | e
  · exact ⟨_, by rw [e]; exact n.top⟩
  · exact h1.live a e
theorem Nes.to {F F' : Fm} {M M' : List Addr} {H H' : Hp} {x x' : Option (Option V)} {p : Addr} {qs : List Addr} {φ ψ : List (List D) → Prop} (n : Nes F M H x p qs φ) (hK : F'.K = F.K) (hx : x' = x) (hm : ∀ a ∈ p :: qs, a ∈ M' ∧ a ∉ F'.M0 ∧ F'.B a = none) (k : ∀ a ∈ p :: qs, ∀ o, H a = some o → H' a = some o)
    (s : Same (hid M H) (hid M' H')) (w : ∀ r, φ r → ψ r) : Nes F' M' H' x' p qs ψ := by
  obtain ⟨rs, h1, h2⟩ := n.rows
  exact ⟨hx.trans n.at_, n.nd, hm, k _ List.mem_cons_self _ n.top, rs, by rw [hK]; exact h1.to (fun a ha => k a (List.mem_cons_of_mem _ ha)) s, w _ h2⟩
def NstA (ks : List Kd) (σ : Sg) (H : Hp) (a : Addr) : Prop := ∃ (i : Nat) (φ : List (List D) → Prop) (p : Addr) (qs : List Addr), ks[i]? = some (.nst φ) ∧ σ[i]? = some (some (.ref p)) ∧ H p = some (.lst (qs.map V.ref)) ∧ a ∈ p :: qs
structure Ok (F : Fm) (ks : List Kd) (M : List Addr) (σ : Sg) (H : Hp) : Prop where
  len : σ.length = ks.length
  dat : ∀ (i : Nat) (d : D), ks[i]? = some (.dat d) → ∃ v, σ[i]? = some (some v) ∧ At F.K (hid M H) v d
  own : ∀ (i : Nat) (φ : List D → Prop), ks[i]? = some (.own φ) → ∃ p, p ∉ F.M0 ∧ Has F M H σ[i]? p φ
  bor : ∀ (i : Nat) (φ : List D → Prop), ks[i]? = some (.bor φ) → ∃ p, p ∈ F.M0 ∧ Has F M H σ[i]? p φ
  inj : ∀ (i j : Nat) (k l : Kd) (p : Addr), ks[i]? = some k → ks[j]? = some l → isM k = true → isM l = true → σ[i]? = some (some (.ref p)) → σ[j]? = some (some (.ref p)) → i = j
  nst : ∀ (i : Nat) (φ : List (List D) → Prop), ks[i]? = some (.nst φ) → ∃ p qs, Nes F M H σ[i]? p qs φ ∧ ∀ a ∈ p :: qs, ¬ OwnA ks σ a
  one : ∀ (i j : Nat) (φ ψ : List (List D) → Prop), ks[i]? = some (.nst φ) → ks[j]? = some (.nst ψ) → i = j
  base : Same F.B H
  vis : Same F.G (hid M H)
  sup : ∀ a ∈ F.M0, a ∈ M
  live : ∀ a ∈ M, ∃ o, H a = some o
def Step (ks : List Kd) (σ : Sg) (H H' : Hp) : Prop := ∀ a o, H a = some o → ¬ OwnA ks σ a → H' a = some o
section
variable {F : Fm} {ks : List Kd} {M : List Addr} {σ : Sg} {H H' H1 H2 : Hp}
theorem Step.refl : Step ks σ H H := fun _ _ h _ => h
theorem Step.trans (a : Step ks σ H H1) (b : Step ks σ H1 H2) : Step ks σ H H2 := fun x o h n => b x o (a x o h n) n
theorem Step.of (e : Same H H') : Step ks σ H H' := fun a o h _ => e a o h
theorem Has.same (e : Same H H') {x : Option (Option V)} {p : Addr} {φ : List D → Prop} (h : Has F M H x p φ) : Has F M H' x p φ := by
  obtain ⟨h1, h2, h3, vs, ds, h4, h5, h6⟩ := h
  exact ⟨h1, h2, h3, vs, ds, e _ _ h4, h5.mono (hid_mono e), h6⟩
theorem Has.imp {x : Option (Option V)} {p : Addr} {φ ψ : List D → Prop} (h : Has F M H x p φ) (q : ∀ ds, φ ds → ψ ds) : Has F M H x p ψ := by
  obtain ⟨h1, h2, h3, vs, ds, h4, h5, h6⟩ := h
  exact ⟨h1, h2, h3, vs, ds, h4, h5, q _ h6⟩
theorem Ok.same (o : Ok F ks M σ H) (e : Same H H') : Ok F ks M σ H' where
  len := o.len
  dat := fun i d h => by
    obtain ⟨v, h1, h2⟩ := o.dat i d h
    exact ⟨v, h1, h2.mono (hid_mono e)⟩
  own := fun i φ h => by
    obtain ⟨p, h1, h2⟩ := o.own i φ h
    exact ⟨p, h1, h2.same e⟩
  bor := fun i φ h => by
    obtain ⟨p, h1, h2⟩ := o.bor i φ h
    exact ⟨p, h1, h2.same e⟩
  inj := o.inj
  nst := fun i φ h => by
    obtain ⟨p, qs, h1, h2⟩ := o.nst i φ h
    exact ⟨p, qs, h1.to rfl rfl h1.mem (fun a _ o h => e a o h) (hid_mono e) (fun _ r => r), h2⟩
  one := o.one
  base := o.base.trans e
  vis := o.vis.trans (hid_mono e)
  sup := o.sup
  live := fun a h => by
    obtain ⟨u, h1⟩ := o.live a h
    exact ⟨u, e _ _ h1⟩
theorem Ok.fresh (o : Ok F ks M σ H) {p : Addr} (h : H p = none) : p ∉ M := fun z => by
  obtain ⟨u, h1⟩ := o.live p z
  rw [h] at h1
  cases h1
theorem Ok.mAt (o : Ok F ks M σ H) {i : Nat} {k : Kd} (h : ks[i]? = some k) (m : isM k = true) : ∃ p φ, Has F M H σ[i]? p φ := by
  cases k with
  | any => cases m
  | dat d => cases m
  | nst φ => cases m
  | own φ =>
    obtain ⟨p, _, h1⟩ := o.own i φ h
    exact ⟨p, φ, h1⟩
  | bor φ =>
    obtain ⟨p, _, h1⟩ := o.bor i φ h
    exact ⟨p, φ, h1⟩
theorem Ok.ownM (o : Ok F ks M σ H) {a : Addr} (h : OwnA ks σ a) : a ∈ M := by
  obtain ⟨i, k, h1, h2, h3⟩ := h
  obtain ⟨p, φ, q1, q2, _⟩ := o.mAt h1 h2
  rw [h3] at q1
  cases q1
  exact q2
theorem Ok.hidStep (o : Ok F ks M σ H) (s : Step ks σ H H') : Same (hid M H) (hid M H') := fun a u h => by
  obtain ⟨h1, h2⟩ := hid_some h
  rw [hid_out h1]
  exact s a u h2 fun z => h1 (o.ownM z)
/-- places of a list of lists -/
theorem Ok.nstIn (o : Ok F ks M σ H) {a : Addr} (h : NstA ks σ H a) : ∃ (i : Nat) (φ : List (List D) → Prop) (p : Addr) (qs : List Addr), ks[i]? = some (.nst φ) ∧ Nes F M H σ[i]? p qs φ ∧ a ∈ p :: qs ∧ ¬ OwnA ks σ a := by
  obtain ⟨i, φ, p, qs, h1, h2, h3, h4⟩ := h
  obtain ⟨p', qs', g1, g2⟩ := o.nst i φ h1
  have e := g1.at_
  rw [h2] at e
  cases e
  have t := g1.top
  rw [h3] at t
  cases (List.map_inj_right (f := V.ref) (fun a b z => V.ref.inj z)).mp (HO.lst.inj (Option.some.inj t))
  exact ⟨i, φ, p, qs, h1, g1, h4, g2 a h4⟩
theorem Ok.nstSome (o : Ok F ks M σ H) {a : Addr} (h : NstA ks σ H a) : a ∈ M ∧ (∃ u, H a = some u) ∧ F.B a = none ∧ a ∉ F.M0 ∧ ¬ OwnA ks σ a := by
  obtain ⟨i, φ, p, qs, h1, h2, h3, h4⟩ := o.nstIn h
  obtain ⟨g1, g2, g3⟩ := h2.mem a h3
  exact ⟨g1, h2.live a h3, g3, g2, h4⟩
theorem Ok.noNst (o : Ok F ks M σ H) {p : Addr} (h : H p = none) : ¬ NstA ks σ H p := fun z => by
  obtain ⟨_, ⟨u, e⟩, _⟩ := o.nstSome z
  rw [h] at e
  cases e
/-- the same places behind a step -/
theorem Ok.nstBack (o : Ok F ks M σ H) (s : Step ks σ H H') {a : Addr} (h : NstA ks σ H' a) : NstA ks σ H a := by
  obtain ⟨i, φ, p, qs, h1, h2, h3, h4⟩ := h
  obtain ⟨p', qs', g1, g2⟩ := o.nst i φ h1
  have e := g1.at_
  rw [h2] at e
  cases e
  have t := s _ _ g1.top (g2 p List.mem_cons_self)
  rw [h3] at t
  cases (List.map_inj_right (f := V.ref) (fun a b z => V.ref.inj z)).mp (HO.lst.inj (Option.some.inj t))
  exact ⟨i, φ, p, qs, h1, h2, g1.top, h4⟩
theorem Ok.nstFresh (o : Ok F ks M σ H) (s : Step ks σ H H') {p : Addr} (h : H p = none) : ¬ NstA ks σ H' p := fun z => o.noNst h (o.nstBack s z)
theorem Nes.nstA {i : Nat} {φ : List (List D) → Prop} {p : Addr} {qs : List Addr} (h : ks[i]? = some (.nst φ)) (n : Nes F M H σ[i]? p qs φ) {a : Addr} (ha : a ∈ p :: qs) : NstA ks σ H a := ⟨i, φ, p, qs, h, n.at_, n.top, ha⟩
/-- a place that is not ours is hidden too -/
theorem Ok.hide (o : Ok F ks M σ H) {p : Addr} {u : HO} (h : H p = none) : Ok F ks (p :: M) σ (upd H p u) where
  len := o.len
  dat := fun i d e => by
    rw [hid_new h]
    exact o.dat i d e
  own := fun i φ e => by
    obtain ⟨q, h1, h2, h3, h4, vs, ds, h5, h6, h7⟩ := o.own i φ e
    exact ⟨q, h1, h2, List.mem_cons_of_mem _ h3, h4, vs, ds, same_new h _ _ h5, by rw [hid_new h]; exact h6, h7⟩
  bor := fun i φ e => by
    obtain ⟨q, h1, h2, h3, h4, vs, ds, h5, h6, h7⟩ := o.bor i φ e
    exact ⟨q, h1, h2, List.mem_cons_of_mem _ h3, h4, vs, ds, same_new h _ _ h5, by rw [hid_new h]; exact h6, h7⟩
  inj := o.inj
  nst := fun i φ e => by
    obtain ⟨q, qs, h1, h2⟩ := o.nst i φ e
    exact ⟨q, qs, h1.to rfl rfl (fun a ha => ⟨List.mem_cons_of_mem _ (h1.mem a ha).1, (h1.mem a ha).2⟩) (fun a _ o h1 => same_new h a o h1) (by rw [hid_new h]; exact Same.refl _) (fun _ r => r), h2⟩
  one := o.one
  base := o.base.trans (same_new h)
  vis := by rw [hid_new h]; exact o.vis
  sup := fun a z => List.mem_cons_of_mem _ (o.sup a z)
  live := fun a z => by
    rcases List.mem_cons.mp z with e | e
    · exact ⟨u, by rw [e, upd_same]⟩
    · obtain ⟨w, h1⟩ := o.live a e
      exact ⟨w, same_new h _ _ h1⟩
/-- a hidden place that is no slot's is written -/
theorem Ok.put (o : Ok F ks M σ H) {p : Addr} {u : HO} (h : p ∈ M) (hB : F.B p = none) (n : ¬ OwnA ks σ p) (nn : ¬ NstA ks σ H p) : Ok F ks M σ (upd H p u) where
  len := o.len
  dat := fun i d e => by
    rw [hid_upd h]
    exact o.dat i d e
  own := fun i φ e => by
    obtain ⟨q, h1, h2, h3, h4, vs, ds, h5, h6, h7⟩ := o.own i φ e
    exact ⟨q, h1, h2, h3, h4, vs, ds, by rw [upd_ne (fun z => n ⟨i, _, e, rfl, by rw [← z]; exact h2⟩)]; exact h5, by rw [hid_upd h]; exact h6, h7⟩
  bor := fun i φ e => by
    obtain ⟨q, h1, h2, h3, h4, vs, ds, h5, h6, h7⟩ := o.bor i φ e
    exact ⟨q, h1, h2, h3, h4, vs, ds, by rw [upd_ne (fun z => n ⟨i, _, e, rfl, by rw [← z]; exact h2⟩)]; exact h5, by rw [hid_upd h]; exact h6, h7⟩
  inj := o.inj
  nst := fun i φ e => by
    obtain ⟨q, qs, h1, h2⟩ := o.nst i φ e
    exact ⟨q, qs, h1.to rfl rfl h1.mem (fun a ha u g => by rw [upd_ne (fun z => nn (by rw [← z]; exact h1.nstA e ha))]; exact g) (by rw [hid_upd h]; exact Same.refl _) (fun _ r => r), h2⟩
  one := o.one
  base := same_mut o.base hB
  vis := by rw [hid_upd h]; exact o.vis
  sup := o.sup
  live := fun a z => by
    by_cases e : a = p
    · exact ⟨u, by rw [e, upd_same]⟩
    · rw [upd_ne e]
      exact o.live a z
/-- a hidden place that is no slot's is shown -/
theorem Ok.show (o : Ok F ks (p :: M) σ H) (n : ¬ OwnA ks σ p) (hp : p ∉ F.M0) (nn : ¬ NstA ks σ H p) : Ok F ks M σ H where
  len := o.len
  dat := fun i d e => by
    obtain ⟨v, h1, h2⟩ := o.dat i d e
    exact ⟨v, h1, h2.mono (hid_sub fun a z => List.mem_cons_of_mem _ z)⟩
  own := fun i φ e => by
    obtain ⟨q, h1, h2, h3, h4, vs, ds, h5, h6, h7⟩ := o.own i φ e
    refine ⟨q, h1, h2, ?_, h4, vs, ds, h5, h6.mono (hid_sub fun a z => List.mem_cons_of_mem _ z), h7⟩
    rcases List.mem_cons.mp h3 with z | z
    · exact absurd ⟨i, _, e, rfl, by rw [← z]; exact h2⟩ n
    · exact z
  bor := fun i φ e => by
    obtain ⟨q, h1, h2, h3, h4, vs, ds, h5, h6, h7⟩ := o.bor i φ e
    refine ⟨q, h1, h2, ?_, h4, vs, ds, h5, h6.mono (hid_sub fun a z => List.mem_cons_of_mem _ z), h7⟩
    rcases List.mem_cons.mp h3 with z | z
    · exact absurd ⟨i, _, e, rfl, by rw [← z]; exact h2⟩ n
    · exact z
  inj := o.inj
  nst := fun i φ e => by
    obtain ⟨q, qs, h1, h2⟩ := o.nst i φ e
    refine ⟨q, qs, h1.to rfl rfl (fun a ha => ⟨?_, (h1.mem a ha).2⟩) (fun a _ o h1 => h1) (hid_sub fun a z => List.mem_cons_of_mem _ z) (fun _ r => r), h2⟩
    rcases List.mem_cons.mp (h1.mem a ha).1 with z | z
    · exact absurd (by rw [← z]; exact h1.nstA e ha) nn
    · exact z
  one := o.one
  base := o.base
  vis := o.vis.trans (hid_sub fun a z => List.mem_cons_of_mem _ z)
  sup := fun a z => by
    rcases List.mem_cons.mp (o.sup a z) with e | e
    · exact absurd (by rw [← e]; exact z) hp
    · exact e
  live := fun a z => o.live a (List.mem_cons_of_mem _ z)
theorem Ok.baseNone (o : Ok F ks M σ H) {p : Addr} (h : H p = none) : F.B p = none := by
  cases e : F.B p with
  | none => rfl
  | some u =>
    rw [o.base _ _ e] at h
    cases h
theorem Ok.noOwn (o : Ok F ks M σ H) {p : Addr} (h : H p = none) : ¬ OwnA ks σ p := fun z => o.fresh h (o.ownM z)
end

/-! ### judgements -/
section
variable (F : Fm) (ks : List Kd)
/-- an expression gives a datum of R -/
def EvR (te : TE) (R : D → Prop) : Prop := ∀ M σ H, Ok F ks M σ H → ∀ Q : VK, (∀ v d H', Ok F ks M σ H' → Step ks σ H H' → At F.K (hid M H') v d → R d → Q v H') → te σ H Q
abbrev Ev (te : TE) (d : D) : Prop := EvR F ks te (fun x => x = d)
/-- a new list whose items are of R -/
def EvLR (te : TE) (R : List D → Prop) : Prop := ∀ M σ H, Ok F ks M σ H → ∀ Q : VK, (∀ p vs ds H', H p = none → Ok F ks (p :: M) σ H' → Step ks σ H H' → H' p = some (.lst vs) → Ats F.K (hid (p :: M) H') vs ds → R ds → Q (.ref p) H') → te σ H Q
abbrev EvL (te : TE) (ds : List D) : Prop := EvLR F ks te (fun x => x = ds)
def EvTR (tt : TT) (R : Bool → Prop) : Prop := ∀ M σ H, Ok F ks M σ H → ∀ Q : Bool → Hp → Prop, (∀ b H', Ok F ks M σ H' → Step ks σ H H' → R b → Q b H') → tt σ H Q
abbrev EvT (tt : TT) (b : Bool) : Prop := EvTR F ks tt (fun x => x = b)
def EvAR (ta : TA) (R : List D → Prop) : Prop := ∀ M σ H, Ok F ks M σ H → ∀ Q : List V → Hp → Prop, (∀ vs ds H', Ok F ks M σ H' → Step ks σ H H' → Ats F.K (hid M H') vs ds → R ds → Q vs H') → ta σ H Q
abbrev EvA (ta : TA) (ds : List D) : Prop := EvAR F ks ta (fun x => x = ds)
/-- an operation on values -/
def OpV (r : R2) (x y : D) (R : D → Prop) : Prop := ∀ M σ H, Ok F ks M σ H → ∀ v w, At F.K (hid M H) v x → At F.K (hid M H) w y → ∀ Q : VK, (∀ z d H', Ok F ks M σ H' → Step ks σ H H' → At F.K (hid M H') z d → R d → Q z H') → r v w H Q
def OpVL (r : R2) (x y : D) (R : List D → Prop) : Prop := ∀ M σ H, Ok F ks M σ H → ∀ v w, At F.K (hid M H) v x → At F.K (hid M H) w y → ∀ Q : VK, (∀ p vs ds H', H p = none → Ok F ks (p :: M) σ H' → Step ks σ H H' → H' p = some (.lst vs) → Ats F.K (hid (p :: M) H') vs ds → R ds → Q (.ref p) H') → r v w H Q
def UnV (r : V → Hp → VK → Prop) (x : D) (R : D → Prop) : Prop := ∀ M σ H, Ok F ks M σ H → ∀ v, At F.K (hid M H) v x → ∀ Q : VK, (∀ z d H', Ok F ks M σ H' → Step ks σ H H' → At F.K (hid M H') z d → R d → Q z H') → r v H Q
/-- a call on values -/
def CaV (r : List V → Hp → VK → Prop) (xs : List D) (R : D → Prop) : Prop := ∀ M σ H, Ok F ks M σ H → ∀ vs, Ats F.K (hid M H) vs xs → ∀ Q : VK, (∀ z d H', Ok F ks M σ H' → Step ks σ H H' → At F.K (hid M H') z d → R d → Q z H') → r vs H Q
def CaVL (r : List V → Hp → VK → Prop) (xs : List D) (R : List D → Prop) : Prop := ∀ M σ H, Ok F ks M σ H → ∀ vs, Ats F.K (hid M H) vs xs → ∀ Q : VK, (∀ p vs ds H', H p = none → Ok F ks (p :: M) σ H' → Step ks σ H H' → H' p = some (.lst vs) → Ats F.K (hid (p :: M) H') vs ds → R ds → Q (.ref p) H') → r vs H Q
/-- statements -/
def Cont (N : Sg → Hp → Prop) : Prop := ∀ M σ H, Ok F ks M σ H → N σ H
abbrev Run (t : TS) (E : Ends) : Prop := Cont F ks (t E)
end
end Dl
set_option Elab.async false
set_option linter.all false
set_option maxRecDepth 100000
set_option maxHeartbeats 4000000
/-! Dl2: expressions. -/
namespace Dl
open PySem PySem.Spec PyProof.Rows L2
section
variable {F : Fm} {ks : List Kd} {M : List Addr} {σ : Sg} {H H' : Hp}
theorem EvR.imp {te : TE} {R S : D → Prop} (h : EvR F ks te R) (i : ∀ d, R d → S d) : EvR F ks te S := fun M σ H o Q q => h M σ H o Q fun v d H' a b c r => q v d H' a b c (i d r)
theorem EvLR.imp {te : TE} {R S : List D → Prop} (h : EvLR F ks te R) (i : ∀ d, R d → S d) : EvLR F ks te S := fun M σ H o Q q => h M σ H o Q fun p v d H' a0 a b c e r => q p v d H' a0 a b c e (i d r)
theorem EvTR.imp {te : TT} {R S : Bool → Prop} (h : EvTR F ks te R) (i : ∀ d, R d → S d) : EvTR F ks te S := fun M σ H o Q q => h M σ H o Q fun b H' a c r => q b H' a c (i b r)
theorem Ev.to {te : TE} {d e : D} (h : Ev F ks te d) (i : d = e) : Ev F ks te e := by rw [← i]; exact h
theorem EvT.to {te : TT} {d e : Bool} (h : EvT F ks te d) (i : d = e) : EvT F ks te e := by rw [← i]; exact h
theorem EvL.to {te : TE} {d e : List D} (h : EvL F ks te d) (i : d = e) : EvL F ks te e := by rw [← i]; exact h
/-! names, constants -/
theorem ev_var {i : Nat} {d : D} (h : ks[i]? = some (.dat d)) : Ev F ks (tVar i) d := fun M σ H o Q q => by
  obtain ⟨v, h1, h2⟩ := o.dat i d h
  exact ⟨v, h1, q v d H o .refl h2 rfl⟩
theorem ev_int {i : Int} : Ev F ks (tC (.int i)) (.int i) := fun M σ H o Q q => q _ _ H o .refl (.int i) rfl
theorem ev_bl {b : Bool} : Ev F ks (tC (.bl b)) (.bl b) := fun M σ H o Q q => q _ _ H o .refl (.bl b) rfl
theorem ev_non : Ev F ks (tC .non) .non := fun M σ H o Q q => q _ _ H o .refl .non rfl
theorem ev_str {x : Str} : Ev F ks (tC (.str x)) (.str x) := fun M σ H o Q q => q _ _ H o .refl (.str x) rfl
theorem ev_raw {v : V} : Ev F ks (tC v) (.raw v) := fun M σ H o Q q => q _ _ H o .refl (.raw v) rfl
/-! operations -/
theorem ev_opR {r : R2} {ta tb : TE} {Ra Rb R : D → Prop} (ha : EvR F ks ta Ra) (hb : EvR F ks tb Rb) (hr : ∀ x y, Ra x → Rb y → OpV F ks r x y R) : EvR F ks (tOp r ta tb) R := fun M σ H o Q q =>
  ha M σ H o _ fun v x H1 o1 s1 a1 r1 => hb M σ H1 o1 _ fun w y H2 o2 s2 a2 r2 => hr x y r1 r2 M σ H2 o2 v w (a1.mono (o1.hidStep s2)) a2 Q fun z d H3 o3 s3 a3 r3 => q z d H3 o3 ((s1.trans s2).trans s3) a3 r3
theorem ev_op {r : R2} {ta tb : TE} {x y : D} {R : D → Prop} (ha : Ev F ks ta x) (hb : Ev F ks tb y) (hr : OpV F ks r x y R) : EvR F ks (tOp r ta tb) R := ev_opR ha hb fun a b e1 e2 => by rw [e1, e2]; exact hr
theorem ev_opLR {r : R2} {ta tb : TE} {Ra Rb : D → Prop} {R : List D → Prop} (ha : EvR F ks ta Ra) (hb : EvR F ks tb Rb) (hr : ∀ x y, Ra x → Rb y → OpVL F ks r x y R) : EvLR F ks (tOp r ta tb) R := fun M σ H o Q q =>
  ha M σ H o _ fun v x H1 o1 s1 a1 r1 => hb M σ H1 o1 _ fun w y H2 o2 s2 a2 r2 => hr x y r1 r2 M σ H2 o2 v w (a1.mono (o1.hidStep s2)) a2 Q fun p vs ds H3 n3 o3 s3 l3 a3 r3 =>
    q p vs ds H3 (by
      cases e : H p with
      | none => rfl
      | some u =>
        have n : ¬ OwnA ks σ p := o2.noOwn n3
        rw [s2 _ _ (s1 _ _ e n) n] at n3
        cases n3) o3 ((s1.trans s2).trans s3) l3 a3 r3
theorem ev_opL {r : R2} {ta tb : TE} {x y : D} {R : List D → Prop} (ha : Ev F ks ta x) (hb : Ev F ks tb y) (hr : OpVL F ks r x y R) : EvLR F ks (tOp r ta tb) R := ev_opLR ha hb fun a b e1 e2 => by rw [e1, e2]; exact hr
theorem ev_unR {r : V → Hp → VK → Prop} {ta : TE} {Ra R : D → Prop} (ha : EvR F ks ta Ra) (hr : ∀ x, Ra x → UnV F ks r x R) : EvR F ks (tUn r ta) R := fun M σ H o Q q =>
  ha M σ H o _ fun v x H1 o1 s1 a1 r1 => hr x r1 M σ H1 o1 v a1 Q fun z d H3 o3 s3 a3 r3 => q z d H3 o3 (s1.trans s3) a3 r3
theorem ev_un {r : V → Hp → VK → Prop} {ta : TE} {x : D} {R : D → Prop} (ha : Ev F ks ta x) (hr : UnV F ks r x R) : EvR F ks (tUn r ta) R := ev_unR ha fun a e => by rw [e]; exact hr
theorem opv_I0 {g : Int → Int → Int} {i j : Int} : OpV F ks (rI0 fun i j => .int (g i j)) (.int i) (.int j) (fun d => d = .int (g i j)) := fun M σ H o v w a b Q q => by
  cases a; cases b
  exact ⟨i, j, rfl, rfl, q _ _ H o .refl (.int _) rfl⟩
theorem opv_B0 {g : Int → Int → Bool} {i j : Int} : OpV F ks (rI0 fun i j => .bl (g i j)) (.int i) (.int j) (fun d => d = .bl (g i j)) := fun M σ H o v w a b Q q => by
  cases a; cases b
  exact ⟨i, j, rfl, rfl, q _ _ H o .refl (.bl _) rfl⟩
theorem opv_I {C : Int → Int → Prop} {g : Int → Int → Int} {i j : Int} (hc : C i j) : OpV F ks (rI C fun i j => .int (g i j)) (.int i) (.int j) (fun d => d = .int (g i j)) := fun M σ H o v w a b Q q => by
  cases a; cases b
  exact ⟨i, j, rfl, rfl, hc, q _ _ H o .refl (.int _) rfl⟩
theorem unv_I {g : Int → Int} {i : Int} : UnV F ks (rU fun i => .int (g i)) (.int i) (fun d => d = .int (g i)) := fun M σ H o v a Q q => by
  cases a
  exact ⟨i, rfl, q _ _ H o .refl (.int _) rfl⟩
theorem opv_eqI {i j : Int} : OpV F ks rEq (.int i) (.int j) (fun d => d = .bl (decide (i = j))) := fun M σ H o v w a b Q q => by
  cases a; cases b
  refine ⟨rfl, ?_⟩
  have e : decide (V.int i = V.int j) = decide (i = j) := by
    by_cases h : i = j
    · subst h; simp
    · rw [decide_eq_false h, decide_eq_false fun z => h (V.int.inj z)]
  rw [e]
  exact q _ _ H o .refl (.bl _) rfl
theorem opv_neI {i j : Int} : OpV F ks rNe (.int i) (.int j) (fun d => d = .bl (!decide (i = j))) := fun M σ H o v w a b Q q => by
  cases a; cases b
  refine ⟨rfl, ?_⟩
  have e : decide (V.int i = V.int j) = decide (i = j) := by
    by_cases h : i = j
    · subst h; simp
    · rw [decide_eq_false h, decide_eq_false fun z => h (V.int.inj z)]
  rw [e]
  exact q _ _ H o .refl (.bl _) rfl
theorem opv_eqB {i j : Bool} : OpV F ks rEq (.bl i) (.bl j) (fun d => d = .bl (i == j)) := fun M σ H o v w a b Q q => by
  cases a; cases b
  refine ⟨rfl, ?_⟩
  have e : decide (V.bl i = V.bl j) = (i == j) := by cases i <;> cases j <;> rfl
  rw [e]
  exact q _ _ H o .refl (.bl _) rfl
/-- is, is not None -/
theorem opv_isN {x : D} : OpV F ks (fun x y H Q => y = .non ∧ Q (.bl (decide (x = .non))) H) x .non (fun d => (x = .non → d = .bl true) ∧ ((match x with | .non => false | .raw _ => false | _ => true) = true → d = .bl false)) := fun M σ H o v w a b Q q => by
  cases b
  refine ⟨rfl, q _ _ H o .refl (.bl _) ?_⟩
  cases a <;> refine ⟨fun e => ?_, fun e => ?_⟩ <;> first | rfl | cases e
theorem opv_notN {x : D} : OpV F ks (fun x y H Q => y = .non ∧ Q (.bl (!decide (x = .non))) H) x .non (fun d => (x = .non → d = .bl false) ∧ ((match x with | .non => false | .raw _ => false | _ => true) = true → d = .bl true)) := fun M σ H o v w a b Q q => by
  cases b
  refine ⟨rfl, q _ _ H o .refl (.bl _) ?_⟩
  cases a <;> refine ⟨fun e => ?_, fun e => ?_⟩ <;> first | rfl | cases e
/-! arguments, displays -/
theorem ea_nil : EvA F ks tNil [] := fun M σ H o Q q => q _ _ H o .refl .nil rfl
theorem ea_consR {ta : TE} {tr : TA} {Ra : D → Prop} {Rr : List D → Prop} (ha : EvR F ks ta Ra) (hr : EvAR F ks tr Rr) : EvAR F ks (tCons ta tr) (fun ds => ∃ d es, Ra d ∧ Rr es ∧ ds = d :: es) := fun M σ H o Q q =>
  ha M σ H o _ fun v x H1 o1 s1 a1 r1 => hr M σ H1 o1 _ fun vs xs H2 o2 s2 a2 r2 => q _ _ H2 o2 (s1.trans s2) (.cons (a1.mono (o1.hidStep s2)) a2) ⟨x, xs, r1, r2, rfl⟩
theorem ea_cons {ta : TE} {tr : TA} {d : D} {ds : List D} (ha : Ev F ks ta d) (hr : EvA F ks tr ds) : EvA F ks (tCons ta tr) (d :: ds) := fun M σ H o Q q =>
  ha M σ H o _ fun v x H1 o1 s1 a1 r1 => hr M σ H1 o1 _ fun vs xs H2 o2 s2 a2 r2 => q _ _ H2 o2 (s1.trans s2) (.cons (a1.mono (o1.hidStep s2)) a2) (by rw [r1, r2])
theorem ea_one {ta : TE} {d : D} (ha : Ev F ks ta d) : EvA F ks (tCons ta tNil) [d] := ea_cons ha ea_nil
theorem ea_oneR {ta : TE} {R : D → Prop} (ha : EvR F ks ta R) : EvAR F ks (tCons ta tNil) (fun ds => ∃ d, R d ∧ ds = [d]) := fun M σ H o Q q =>
  ha M σ H o _ fun v x H1 o1 s1 a1 r1 => q _ _ H1 o1 s1 (.cons a1 .nil) ⟨x, r1, rfl⟩
/-- a new tuple stands -/
theorem tup_new {vs : List V} {ds : List D} (o : Ok F ks M σ H) (a : Ats F.K (hid M H) vs ds) {p : Addr} (n : H p = none) :
    Ok F ks M σ (upd H p (.tup vs)) ∧ Step ks σ H (upd H p (.tup vs)) ∧ At F.K (hid M (upd H p (.tup vs))) (.ref p) (.tup ds) :=
  ⟨o.same (same_new n), .of (same_new n), .tup (.inl (.inl (by rw [hid_out (o.fresh n), upd_same]))) (a.mono (hid_mono (same_new n)))⟩
theorem lst_new {vs : List V} {ds : List D} (o : Ok F ks M σ H) (a : Ats F.K (hid M H) vs ds) {p : Addr} (n : H p = none) :
    Ok F ks (p :: M) σ (upd H p (.lst vs)) ∧ Step ks σ H (upd H p (.lst vs)) ∧ (upd H p (.lst vs)) p = some (.lst vs) ∧ Ats F.K (hid (p :: M) (upd H p (.lst vs))) vs ds :=
  ⟨o.hide n, .of (same_new n), upd_same, by rw [hid_new n]; exact a⟩
theorem ev_tupR {ta : TA} {R : List D → Prop} (h : EvAR F ks ta R) (hl : ∀ ds, R ds → ds.length ≤ sizeLine) : EvR F ks (tTup ta) (fun d => ∃ ds, R ds ∧ d = .tup ds) := fun M σ H o Q q =>
  h M σ H o _ fun vs ds H1 o1 s1 a1 r1 => ⟨by rw [a1.length]; exact hl _ r1, fun p n => by
    obtain ⟨o2, s2, a2⟩ := tup_new o1 a1 n
    exact q _ _ _ o2 (s1.trans s2) a2 ⟨ds, r1, rfl⟩⟩
theorem ev_tup {ta : TA} {ds : List D} (h : EvA F ks ta ds) (hl : Nat.ble ds.length 1000 = true := by rfl) : Ev F ks (tTup ta) (.tup ds) := (ev_tupR h fun es e => by rw [e]; exact Nat.le_trans (Nat.le_of_ble_eq_true hl) (by decide)).imp fun d ⟨es, e, z⟩ => by rw [z, e]
theorem el_lstR {ta : TA} {R : List D → Prop} (h : EvAR F ks ta R) (hl : ∀ ds, R ds → ds.length ≤ sizeLine) : EvLR F ks (tLst ta) R := fun M σ H o Q q =>
  h M σ H o _ fun vs ds H1 o1 s1 a1 r1 => ⟨by rw [a1.length]; exact hl _ r1, fun p n => by
    obtain ⟨o2, s2, l2, a2⟩ := lst_new o1 a1 n
    refine q _ _ _ _ ?_ o2 (s1.trans s2) l2 a2 r1
    cases e : H p with
    | none => rfl
    | some u =>
      rw [s1 _ _ e (o1.noOwn n)] at n
      cases n⟩
theorem el_lst {ta : TA} {ds : List D} (h : EvA F ks ta ds) (hl : Nat.ble ds.length 1000 = true := by rfl) : EvL F ks (tLst ta) ds := el_lstR h fun es e => by rw [e]; exact Nat.le_trans (Nat.le_of_ble_eq_true hl) (by decide)
/-- a new list as a datum -/
theorem ev_lstR {te : TE} {R : List D → Prop} (h : EvLR F ks te R) : EvR F ks te (fun d => ∃ ds, R ds ∧ d = .lst ds) := fun M σ H o Q q =>
  h M σ H o _ fun p vs ds H1 n o1 s1 l1 a1 r1 => by
    have np : p ∉ M := o.fresh n
    have nm : p ∉ F.M0 := fun z => np (o.sup p z)
    have no : ¬ OwnA ks σ p := o.noOwn n
    exact q _ _ H1 (o1.show no nm (o.nstFresh s1 n)) s1 (.lst (by rw [hid_out np]; exact l1) (a1.mono (hid_sub fun a z => List.mem_cons_of_mem _ z))) ⟨ds, r1, rfl⟩
theorem ev_lst {te : TE} {ds : List D} (h : EvL F ks te ds) : Ev F ks te (.lst ds) := (ev_lstR h).imp fun d ⟨es, e, z⟩ => by rw [z, e]
/-! calls of built-ins -/
theorem ev_cbR {r : List V → Hp → VK → Prop} {ta : TA} {Ra : List D → Prop} {R : D → Prop} (h : EvAR F ks ta Ra) (hr : ∀ ds, Ra ds → CaV F ks r ds R) : EvR F ks (tCB r ta) R := fun M σ H o Q q =>
  h M σ H o _ fun vs ds H1 o1 s1 a1 r1 => hr ds r1 M σ H1 o1 vs a1 Q fun z d H2 o2 s2 a2 r2 => q z d H2 o2 (s1.trans s2) a2 r2
theorem ev_cb {r : List V → Hp → VK → Prop} {ta : TA} {ds : List D} {R : D → Prop} (h : EvA F ks ta ds) (hr : CaV F ks r ds R) : EvR F ks (tCB r ta) R := ev_cbR h fun es e => by rw [e]; exact hr
theorem el_cbR {r : List V → Hp → VK → Prop} {ta : TA} {Ra : List D → Prop} {R : List D → Prop} (h : EvAR F ks ta Ra) (hr : ∀ ds, Ra ds → CaVL F ks r ds R) : EvLR F ks (tCB r ta) R := fun M σ H o Q q =>
  h M σ H o _ fun vs ds H1 o1 s1 a1 r1 => hr ds r1 M σ H1 o1 vs a1 Q fun p ws d H2 n o2 s2 l2 a2 r2 => q p ws d H2 (by
    cases e : H p with
    | none => rfl
    | some u =>
      rw [s1 _ _ e (o1.noOwn n)] at n
      cases n) o2 (s1.trans s2) l2 a2 r2
theorem el_cb {r : List V → Hp → VK → Prop} {ta : TA} {ds : List D} {R : List D → Prop} (h : EvA F ks ta ds) (hr : CaVL F ks r ds R) : EvLR F ks (tCB r ta) R := el_cbR h fun es e => by rw [e]; exact hr
/-! tests -/
theorem et_testR {te : TE} {R : Bool → Prop} (h : EvR F ks te (fun d => ∃ b, R b ∧ d = .bl b)) : EvTR F ks (tTest te) R := fun M σ H o Q q =>
  h M σ H o _ fun v d H1 o1 s1 a1 ⟨b, r1, e⟩ => by
    subst e
    cases a1
    exact ⟨b, rfl, q b H1 o1 s1 r1⟩
theorem et_test {te : TE} {b : Bool} (h : Ev F ks te (.bl b)) : EvT F ks (tTest te) b := et_testR (h.imp fun d e => ⟨b, rfl, e⟩)
theorem et_BR {te : TE} {R : Bool → Prop} (h : EvR F ks te (fun d => ∃ b, R b ∧ d = .bl b)) : EvTR F ks (tB te) R := et_testR h
theorem et_B {te : TE} {b : Bool} (h : Ev F ks te (.bl b)) : EvT F ks (tB te) b := et_test h
theorem et_and {t u : TT} {a b : Bool} (h1 : EvT F ks t a) (h2 : a = true → EvT F ks u b) : EvT F ks (tAnd t u) (a && b) := fun M σ H o Q q => h1 M σ H o _ fun c H1 o1 s1 e => by
  subst e
  cases c with
  | true =>
    show u σ H1 Q
    exact h2 rfl M σ H1 o1 Q fun c2 H2 o2 s2 e2 => q c2 H2 o2 (s1.trans s2) (by rw [e2]; rfl)
  | false =>
    show Q false H1
    exact q false H1 o1 s1 rfl
theorem et_or {t u : TT} {a b : Bool} (h1 : EvT F ks t a) (h2 : a = false → EvT F ks u b) : EvT F ks (tOr t u) (a || b) := fun M σ H o Q q => h1 M σ H o _ fun c H1 o1 s1 e => by
  subst e
  cases c with
  | true =>
    show Q true H1
    exact q true H1 o1 s1 rfl
  | false =>
    show u σ H1 Q
    exact h2 rfl M σ H1 o1 Q fun c2 H2 o2 s2 e2 => q c2 H2 o2 (s1.trans s2) (by rw [e2]; rfl)
theorem et_not {t : TT} {a : Bool} (h : EvT F ks t a) : EvT F ks (tNot t) (!a) := fun M σ H o Q q => h M σ H o _ fun c H1 o1 s1 e => q _ H1 o1 s1 (by rw [e])
theorem et_notR {t : TT} {R : Bool → Prop} (h : EvTR F ks t R) : EvTR F ks (tNot t) (fun b => R (!b)) := fun M σ H o Q q => h M σ H o _ fun c H1 o1 s1 e => q _ H1 o1 s1 (by show R (!!c); rw [Bool.not_not]; exact e)
theorem ev_and {ta tb : TE} {a : Bool} {d : D} (h1 : Ev F ks ta (.bl a)) (h2 : a = true → Ev F ks tb d) (h3 : a = false → d = .bl false) : Ev F ks (tAndV ta tb) d := fun M σ H o Q q => h1 M σ H o _ fun v x H1 o1 s1 a1 e => by
  subst e
  cases a1
  refine ⟨a, rfl, ?_⟩
  cases a with
  | true =>
    show tb σ H1 Q
    exact h2 rfl M σ H1 o1 Q fun v2 x2 H2 o2 s2 a2 e2 => q v2 x2 H2 o2 (s1.trans s2) a2 e2
  | false =>
    show Q (.bl false) H1
    exact q _ _ H1 o1 s1 (.bl false) (h3 rfl).symm
theorem ev_or {ta tb : TE} {a : Bool} {d : D} (h1 : Ev F ks ta (.bl a)) (h2 : a = false → Ev F ks tb d) (h3 : a = true → d = .bl true) : Ev F ks (tOrV ta tb) d := fun M σ H o Q q => h1 M σ H o _ fun v x H1 o1 s1 a1 e => by
  subst e
  cases a1
  refine ⟨a, rfl, ?_⟩
  cases a with
  | false =>
    show tb σ H1 Q
    exact h2 rfl M σ H1 o1 Q fun v2 x2 H2 o2 s2 a2 e2 => q v2 x2 H2 o2 (s1.trans s2) a2 e2
  | true =>
    show Q (.bl true) H1
    exact q _ _ H1 o1 s1 (.bl true) (h3 rfl).symm
theorem ev_not {ta : TE} {a : Bool} (h1 : Ev F ks ta (.bl a)) : Ev F ks (tNotV ta) (.bl (!a)) := fun M σ H o Q q => h1 M σ H o _ fun v x H1 o1 s1 a1 e => by
  subst e
  cases a1
  exact ⟨a, rfl, q _ _ H1 o1 s1 (.bl _) rfl⟩
theorem ev_ifR {t : TT} {ta tb : TE} {Rt : Bool → Prop} {R : D → Prop} (h : EvTR F ks t Rt) (h1 : Rt true → EvR F ks ta R) (h2 : Rt false → EvR F ks tb R) : EvR F ks (tIf t ta tb) R := fun M σ H o Q q => h M σ H o _ fun c H1 o1 s1 e => by
  cases c with
  | true =>
    show ta σ H1 Q
    exact h1 e M σ H1 o1 Q fun v2 x2 H2 o2 s2 a2 e2 => q v2 x2 H2 o2 (s1.trans s2) a2 e2
  | false =>
    show tb σ H1 Q
    exact h2 e M σ H1 o1 Q fun v2 x2 H2 o2 s2 a2 e2 => q v2 x2 H2 o2 (s1.trans s2) a2 e2
theorem ev_if {t : TT} {ta tb : TE} {b : Bool} {R : D → Prop} (h : EvT F ks t b) (h1 : b = true → EvR F ks ta R) (h2 : b = false → EvR F ks tb R) : EvR F ks (tIf t ta tb) R := ev_ifR h (fun e => h1 e.symm) (fun e => h2 e.symm)
/-- a < b < c -/
theorem ev_chain {r r' : R2} {ta tb tc : TE} {x y : D} {a : Bool} {d : D} (ha : Ev F ks ta x) (hb : Ev F ks tb y) (h1 : OpV F ks r x y (fun d => d = .bl a)) (h2 : a = true → ∃ z, Ev F ks tc z ∧ OpV F ks r' y z (fun e => e = d)) (h3 : a = false → d = .bl false) :
    Ev F ks (tChain r r' ta tb tc) d := fun M σ H o Q q =>
  ha M σ H o _ fun v x' H1 o1 s1 a1 e1 => hb M σ H1 o1 _ fun w y' H2 o2 s2 a2 e2 => by
    subst e1; subst e2
    refine h1 M σ H2 o2 v w (a1.mono (o1.hidStep s2)) a2 _ fun z dz H3 o3 s3 a3 e3 => ?_
    subst e3
    cases a3
    refine ⟨a, rfl, ?_⟩
    cases a with
    | true =>
      obtain ⟨z, hz, hr⟩ := h2 rfl
      rw [if_pos rfl]
      refine hz M σ H3 o3 _ fun u z' H4 o4 s4 a4 e4 => ?_
      subst e4
      exact hr M σ H4 o4 w u ((a2.mono (o2.hidStep s3)).mono (o3.hidStep s4)) a4 Q fun t d' H5 o5 s5 a5 e5 => q t d' H5 o5 ((((s1.trans s2).trans s3).trans s4).trans s5) a5 e5
    | false =>
      rw [if_neg Bool.false_ne_true]
      exact q _ _ H3 o3 ((s1.trans s2).trans s3) (.bl false) (h3 rfl).symm
/-! places -/
theorem opv_ixL {ds : List D} {i : Int} {d : D} (h : atI ds i = some d) : OpV F ks (rIxL F.K) (.lst ds) (.int i) (fun x => x = d) := fun M σ H o v w a b Q q => by
  cases a with
  | lst hl hs =>
    cases b
    rename_i p xs
    have e : ∃ u, atI xs i = some u ∧ At F.K (hid M H) u d := by
      unfold atI at h ⊢
      rw [hs.length]
      cases z : ixN ds.length i with
      | none => rw [z] at h; cases h
      | some j =>
        rw [z] at h
        exact hs.get h
    obtain ⟨u, e1, e2⟩ := e
    exact ⟨p, xs, i, u, rfl, rfl, .inl (.inl (hid_same _ _ hl)), e1, q _ _ H o .refl e2 rfl⟩
theorem opv_ixT {ds : List D} {i : Int} {d : D} (h : atI ds i = some d) : OpV F ks (rIxT F.K) (.tup ds) (.int i) (fun x => x = d) := fun M σ H o v w a b Q q => by
  cases a with
  | tup hl hs =>
    cases b
    rename_i p xs
    have e : ∃ u, atI xs i = some u ∧ At F.K (hid M H) u d := by
      unfold atI at h ⊢
      rw [hs.length]
      cases z : ixN ds.length i with
      | none => rw [z] at h; cases h
      | some j =>
        rw [z] at h
        exact hs.get h
    obtain ⟨u, e1, e2⟩ := e
    exact ⟨p, xs, i, u, rfl, rfl, same_t hid_same hl, e1, q _ _ H o .refl e2 rfl⟩
/-- of a list or tuple -/
theorem opv_ix {x : D} {ds : List D} {i : Int} {d : D} (hx : x = .lst ds ∨ x = .tup ds) (h : atI ds i = some d) : OpV F ks (rIx F.K) x (.int i) (fun x => x = d) := by
  rcases hx with e | e
  · subst e
    exact fun M σ H o v w a b Q q => .inl (opv_ixL h M σ H o v w a b Q q)
  · subst e
    exact fun M σ H o v w a b Q q => .inr (.inl (opv_ixT h M σ H o v w a b Q q))
/-! joins -/
theorem opv_catA {xs ys : List D} (h : xs.length + ys.length ≤ sizeLine) : OpV F ks (rCatA F.K) (.tup xs) (.tup ys) (fun x => x = .tup (xs ++ ys)) := fun M σ H o v w a b Q q => by
  cases a with
  | tup hl hs =>
    cases b with
    | tup hl2 hs2 =>
      rename_i p vs p2 vs2
      refine ⟨p, p2, vs, vs2, rfl, rfl, same_t hid_same hl, same_t hid_same hl2, by rw [hs.length, hs2.length]; exact h, fun e => ?_, fun _ e => ?_, fun _ _ t n => ?_⟩
      · subst e
        cases hs
        exact q _ _ H o .refl (.tup hl2 hs2) rfl
      · subst e
        cases hs2
        exact q _ _ H o .refl (.tup hl hs) (by rw [List.append_nil])
      · obtain ⟨o2, s2, a2⟩ := tup_new o (hs.append hs2) n
        exact q _ _ _ o2 s2 a2 rfl
theorem opv_catL {xs ys : List D} (h : xs.length + ys.length ≤ sizeLine) : OpVL F ks rCat (.lst xs) (.lst ys) (fun x => x = xs ++ ys) := fun M σ H o v w a b Q q => by
  cases a with
  | lst hl hs =>
    cases b with
    | lst hl2 hs2 =>
      rename_i p vs p2 vs2
      refine ⟨p, p2, vs, vs2, rfl, rfl, hid_same _ _ hl, hid_same _ _ hl2, by rw [hs.length, hs2.length]; exact h, fun t n => ?_⟩
      obtain ⟨o2, s2, l2, a2⟩ := lst_new o (hs.append hs2) n
      exact q _ _ _ _ n o2 s2 l2 a2 rfl
theorem flat1 {α : Type} (x : α) (n : Nat) : (List.replicate n [x]).flatten = List.replicate n x := by
  induction n with
  | zero => rfl
  | succ n ih => rw [List.replicate_succ, List.flatten_cons, ih, List.replicate_succ]; rfl
theorem opv_rep1 {d : D} {k : Int} (h0 : -(2 ^ 62) ≤ k) (h1 : k ≤ 1000000) : OpVL F ks rRep (.lst [d]) (.int k) (fun x => x = List.replicate k.toNat d) := fun M σ H o v w a b Q q => by
  cases a with
  | lst hl hs =>
    cases b
    cases hs with
    | cons ha hn =>
      cases hn
      rename_i p v
      refine ⟨p, k, [v], rfl, rfl, hid_same _ _ hl, by omega, by omega, ?_, fun t n => ?_⟩
      · show 1 * k.toNat ≤ sizeLine
        rw [sizeLine_eq]
        omega
      · rw [flat1]
        obtain ⟨o2, s2, l2, a2⟩ := lst_new o (Ats.rep ha k.toNat) n
        exact q _ _ _ _ n o2 s2 l2 a2 rfl
/-! len, tuple, list, sum, int -/
theorem cav_lenL {ds : List D} : CaV F ks (fun xs H Q => ∃ x n, xs = [x] ∧ LenV F.K x H n ∧ Q (.int n) H) [.lst ds] (fun d => d = .int ds.length) := fun M σ H o vs a Q q => by
  cases a with
  | cons a1 a2 =>
    cases a2
    cases a1 with
    | lst hl hs => exact ⟨_, _, rfl, .inl ⟨_, .inl (.inl (hid_same _ _ hl)), rfl⟩, by rw [hs.length]; exact q _ _ H o .refl (.int _) rfl⟩
theorem cav_lenT {ds : List D} : CaV F ks (fun xs H Q => ∃ x n, xs = [x] ∧ LenV F.K x H n ∧ Q (.int n) H) [.tup ds] (fun d => d = .int ds.length) := fun M σ H o vs a Q q => by
  cases a with
  | cons a1 a2 =>
    cases a2
    cases a1 with
    | tup hl hs => exact ⟨_, _, rfl, .inr ⟨_, same_t hid_same hl, rfl⟩, by rw [hs.length]; exact q _ _ H o .refl (.int _) rfl⟩
theorem cav_len {x : D} {ds : List D} (hx : x = .lst ds ∨ x = .tup ds) : CaV F ks (fun xs H Q => ∃ x n, xs = [x] ∧ LenV F.K x H n ∧ Q (.int n) H) [x] (fun d => d = .int ds.length) := by
  rcases hx with e | e
  · rw [e]; exact cav_lenL
  · rw [e]; exact cav_lenT
abbrev rTupOf (K : PySem.W.Frag) : List V → Hp → VK → Prop := fun xs H Q => ∃ p ys, xs = [.ref p] ∧ ((SqL K H p ys ∧ ∀ l, H l = none → Q (.ref l) (upd H l (.tup ys))) ∨ (SqT K H p ys ∧ Q (.ref p) H))
abbrev rLstOf (K : PySem.W.Frag) : List V → Hp → VK → Prop := fun xs H Q => ∃ p ys, xs = [.ref p] ∧ (SqL K H p ys ∨ SqT K H p ys) ∧ ∀ l, H l = none → Q (.ref l) (upd H l (.lst ys))
theorem cav_tupL {ds : List D} : CaV F ks (rTupOf F.K) [.lst ds] (fun d => d = .tup ds) := fun M σ H o vs a Q q => by
  cases a with
  | cons a1 a2 =>
    cases a2
    cases a1 with
    | lst hl hs =>
      refine ⟨_, _, rfl, .inl ⟨.inl (.inl (hid_same _ _ hl)), fun p n => ?_⟩⟩
      obtain ⟨o2, s2, a2⟩ := tup_new o hs n
      exact q _ _ _ o2 s2 a2 rfl
theorem cav_tupT {ds : List D} : CaV F ks (rTupOf F.K) [.tup ds] (fun d => d = .tup ds) := fun M σ H o vs a Q q => by
  cases a with
  | cons a1 a2 =>
    cases a2
    cases a1 with
    | tup hl hs => exact ⟨_, _, rfl, .inr ⟨same_t hid_same hl, q _ _ H o .refl (.tup hl hs) rfl⟩⟩
theorem cav_tup {x : D} {ds : List D} (hx : x = .lst ds ∨ x = .tup ds) : CaV F ks (rTupOf F.K) [x] (fun d => d = .tup ds) := by
  rcases hx with e | e
  · rw [e]; exact cav_tupL
  · rw [e]; exact cav_tupT
/-- tuple(e), e a new list -/
theorem ev_tupleR {te : TE} {R : List D → Prop} (h : EvLR F ks te R) : EvR F ks (tCB (rTupOf F.K) (tCons te tNil)) (fun d => ∃ ds, R ds ∧ d = .tup ds) :=
  ev_cbR (ea_oneR (ev_lstR h)) fun es ⟨d, ⟨ds, r, e1⟩, e2⟩ => by
    subst e1; subst e2
    exact fun M σ H o vs a Q q => cav_tupL M σ H o vs a Q fun z d H' o' s' a' e => q z d H' o' s' a' ⟨ds, r, e⟩
theorem ev_tuple {te : TE} {ds : List D} (h : EvL F ks te ds) : Ev F ks (tCB (rTupOf F.K) (tCons te tNil)) (.tup ds) := (ev_tupleR h).imp fun d ⟨es, e, z⟩ => by rw [z, e]
theorem cavl_lstL {ds : List D} : CaVL F ks (rLstOf F.K) [.lst ds] (fun d => d = ds) := fun M σ H o vs a Q q => by
  cases a with
  | cons a1 a2 =>
    cases a2
    cases a1 with
    | lst hl hs =>
      refine ⟨_, _, rfl, .inl (.inl (.inl (hid_same _ _ hl))), fun p n => ?_⟩
      obtain ⟨o2, s2, l2, a2⟩ := lst_new o hs n
      exact q _ _ _ _ n o2 s2 l2 a2 rfl
theorem cavl_lstT {ds : List D} : CaVL F ks (rLstOf F.K) [.tup ds] (fun d => d = ds) := fun M σ H o vs a Q q => by
  cases a with
  | cons a1 a2 =>
    cases a2
    cases a1 with
    | tup hl hs =>
      refine ⟨_, _, rfl, .inr (same_t hid_same hl), fun p n => ?_⟩
      obtain ⟨o2, s2, l2, a2⟩ := lst_new o hs n
      exact q _ _ _ _ n o2 s2 l2 a2 rfl
theorem cav_sum {ns : List Int} : CaV F ks (rSum F.K) [.lst (ns.map D.int)] (fun d => d = .int ns.sum) := fun M σ H o vs a Q q => by
  cases a with
  | cons a1 a2 =>
    cases a2
    cases a1 with
    | lst hl hs =>
      have e := hs.ints
      subst e
      exact ⟨_, ns, rfl, .inl (.inl (hid_same _ _ hl)), q _ _ H o .refl (.int _) rfl⟩
end
end Dl
set_option Elab.async false
set_option linter.all false
set_option maxRecDepth 100000
set_option maxHeartbeats 4000000
/-! Dl3: what is walked, comprehensions, statements, loops. -/
namespace Dl
open PySem PySem.Spec PyProof.Rows L2
section
variable {F : Fm} {ks : List Kd} {M : List Addr} {σ : Sg} {H H' : Hp}
/-! ### slots -/
theorem getK {α : Type} {l : List α} {i j : Nat} {a b : α} (h : (l.set i a)[j]? = some b) : (i = j ∧ j < l.length ∧ a = b) ∨ (i ≠ j ∧ l[j]? = some b) := by
  rw [List.getElem?_set] at h
  by_cases e : i = j
  · rw [if_pos e] at h
    by_cases l1 : i < l.length
    · rw [if_pos l1] at h
      exact .inl ⟨e, by omega, Option.some.inj h⟩
    · rw [if_neg l1] at h
      cases h
  · rw [if_neg e] at h
    exact .inr ⟨e, h⟩
theorem Ok.lt (o : Ok F ks M σ H) {i : Nat} (h : i < ks.length) : i < σ.length := by rw [o.len]; exact h
theorem Has.at {x y : Option (Option V)} {p : Addr} {φ : List D → Prop} (h : Has F M H x p φ) (e : y = x) : Has F M H y p φ := by rw [e]; exact h
theorem ownA_set {i : Nat} {k' : Kd} {v : Option V} {a : Addr} (h : isM k' = false) (z : OwnA (ks.set i k') (σ.set i v) a) : OwnA ks σ a := by
  obtain ⟨j, k, h1, h2, h3⟩ := z
  rcases getK h1 with ⟨rfl, l, q⟩ | ⟨n, q⟩
  · rw [← q, h] at h2; cases h2
  · rw [List.getElem?_set_ne n] at h3
    exact ⟨j, k, q, h2, h3⟩
theorem Ok.nstSet (o : Ok F ks M σ H) {i j : Nat} {k' : Kd} {v : Option V} {φ : List (List D) → Prop} (hk : ∀ ψ, k' ≠ .nst ψ) (h : (ks.set i k')[j]? = some (.nst φ)) : i ≠ j ∧ ks[j]? = some (.nst φ) := by
  rcases getK h with ⟨_, _, q⟩ | ⟨n, q⟩
  · exact absurd q (hk φ)
  · exact ⟨n, q⟩
theorem Ok.oneSet (o : Ok F ks M σ H) {i : Nat} {k' : Kd} (hk : ∀ ψ, k' ≠ .nst ψ) (j l : Nat) (φ ψ : List (List D) → Prop) (h1 : (ks.set i k')[j]? = some (.nst φ)) (h2 : (ks.set i k')[l]? = some (.nst ψ)) : j = l :=
  o.one j l φ ψ (o.nstSet (v := none) hk h1).2 (o.nstSet (v := none) hk h2).2
/-- a slot gets a datum -/
theorem Ok.setD (o : Ok F ks M σ H) {i : Nat} {v : V} {d : D} (a : At F.K (hid M H) v d) : Ok F (ks.set i (.dat d)) M (σ.set i (some v)) H where
  len := by rw [List.length_set, List.length_set]; exact o.len
  dat := fun j e h => by
    rcases getK h with ⟨rfl, l, q⟩ | ⟨n, q⟩
    · cases q
      exact ⟨v, List.getElem?_set_self (o.lt l), a⟩
    · rw [List.getElem?_set_ne n]
      exact o.dat j e q
  own := fun j φ h => by
    rcases getK h with ⟨rfl, l, q⟩ | ⟨n, q⟩
    · cases q
    · obtain ⟨p, h1, h2⟩ := o.own j φ q
      exact ⟨p, h1, h2.at (List.getElem?_set_ne n)⟩
  bor := fun j φ h => by
    rcases getK h with ⟨rfl, l, q⟩ | ⟨n, q⟩
    · cases q
    · obtain ⟨p, h1, h2⟩ := o.bor j φ q
      exact ⟨p, h1, h2.at (List.getElem?_set_ne n)⟩
  inj := fun j k x y p h1 h2 m1 m2 s1 s2 => by
    rcases getK h1 with ⟨rfl, l, q⟩ | ⟨n, q⟩
    · rw [← q] at m1; cases m1
    · rcases getK h2 with ⟨rfl, l, q2⟩ | ⟨n2, q2⟩
      · rw [← q2] at m2; cases m2
      · rw [List.getElem?_set_ne n] at s1
        rw [List.getElem?_set_ne n2] at s2
        exact o.inj j k x y p q q2 m1 m2 s1 s2
  nst := fun j φ h => by
    obtain ⟨n, q⟩ := o.nstSet (v := none) (fun ψ e => by cases e) h
    obtain ⟨p, qs, h1, h2⟩ := o.nst j φ q
    exact ⟨p, qs, h1.to rfl (List.getElem?_set_ne n) h1.mem (fun _ _ _ h => h) (Same.refl _) (fun _ r => r), fun a ha z => h2 a ha (ownA_set rfl z)⟩
  one := o.oneSet (fun ψ e => by cases e)
  base := o.base
  vis := o.vis
  sup := o.sup
  live := o.live
/-- a slot's value is forgotten, or takes any -/
theorem Ok.setA (o : Ok F ks M σ H) {i : Nat} {v : Option V} : Ok F (ks.set i .any) M (σ.set i v) H where
  len := by rw [List.length_set, List.length_set]; exact o.len
  dat := fun j e h => by
    rcases getK h with ⟨rfl, l, q⟩ | ⟨n, q⟩
    · cases q
    · rw [List.getElem?_set_ne n]
      exact o.dat j e q
  own := fun j φ h => by
    rcases getK h with ⟨rfl, l, q⟩ | ⟨n, q⟩
    · cases q
    · obtain ⟨p, h1, h2⟩ := o.own j φ q
      exact ⟨p, h1, h2.at (List.getElem?_set_ne n)⟩
  bor := fun j φ h => by
    rcases getK h with ⟨rfl, l, q⟩ | ⟨n, q⟩
    · cases q
    · obtain ⟨p, h1, h2⟩ := o.bor j φ q
      exact ⟨p, h1, h2.at (List.getElem?_set_ne n)⟩
  inj := fun j k x y p h1 h2 m1 m2 s1 s2 => by
    rcases getK h1 with ⟨rfl, l, q⟩ | ⟨n, q⟩
    · rw [← q] at m1; cases m1
    · rcases getK h2 with ⟨rfl, l, q2⟩ | ⟨n2, q2⟩
      · rw [← q2] at m2; cases m2
      · rw [List.getElem?_set_ne n] at s1
        rw [List.getElem?_set_ne n2] at s2
        exact o.inj j k x y p q q2 m1 m2 s1 s2
  nst := fun j φ h => by
    obtain ⟨n, q⟩ := o.nstSet (v := none) (fun ψ e => by cases e) h
    obtain ⟨p, qs, h1, h2⟩ := o.nst j φ q
    exact ⟨p, qs, h1.to rfl (List.getElem?_set_ne n) h1.mem (fun _ _ _ h => h) (Same.refl _) (fun _ r => r), fun a ha z => h2 a ha (ownA_set rfl z)⟩
  one := o.oneSet (fun ψ e => by cases e)
  base := o.base
  vis := o.vis
  sup := o.sup
  live := o.live
/-- a slot gets a new list -/
theorem Ok.setO (o : Ok F ks (p :: M) σ H') {i : Nat} {vs : List V} {ds : List D} {φ : List D → Prop} (n : ¬ OwnA ks σ p) (nn : ¬ NstA ks σ H' p) (nm : p ∉ F.M0) (nb : F.B p = none) (l : H' p = some (.lst vs)) (a : Ats F.K (hid (p :: M) H') vs ds) (f : φ ds) :
    Ok F (ks.set i (.own φ)) (p :: M) (σ.set i (some (.ref p))) H' where
  len := by rw [List.length_set, List.length_set]; exact o.len
  dat := fun j e h => by
    rcases getK h with ⟨rfl, l, q⟩ | ⟨n, q⟩
    · cases q
    · rw [List.getElem?_set_ne n]
      exact o.dat j e q
  own := fun j φ h => by
    rcases getK h with ⟨rfl, hl, q⟩ | ⟨n, q⟩
    · cases q
      exact ⟨p, nm, List.getElem?_set_self (o.lt hl), List.mem_cons_self, nb, vs, ds, l, a, f⟩
    · obtain ⟨p, h1, h2⟩ := o.own j φ q
      exact ⟨p, h1, h2.at (List.getElem?_set_ne n)⟩
  bor := fun j φ h => by
    rcases getK h with ⟨rfl, hl, q⟩ | ⟨n, q⟩
    · cases q
    · obtain ⟨p, h1, h2⟩ := o.bor j φ q
      exact ⟨p, h1, h2.at (List.getElem?_set_ne n)⟩
  inj := fun j k x y r h1 h2 m1 m2 s1 s2 => by
    rcases getK h1 with ⟨rfl, hl, q⟩ | ⟨n1, q⟩
    · rcases getK h2 with ⟨rfl, hl2, q2⟩ | ⟨n2, q2⟩
      · rfl
      · rw [List.getElem?_set_self (o.lt hl)] at s1
        rw [List.getElem?_set_ne n2] at s2
        cases s1
        exact absurd ⟨k, y, q2, m2, s2⟩ n
    · rcases getK h2 with ⟨rfl, hl2, q2⟩ | ⟨n2, q2⟩
      · rw [List.getElem?_set_self (o.lt hl2)] at s2
        rw [List.getElem?_set_ne n1] at s1
        cases s2
        exact absurd ⟨j, x, q, m1, s1⟩ n
      · rw [List.getElem?_set_ne n1] at s1
        rw [List.getElem?_set_ne n2] at s2
        exact o.inj j k x y r q q2 m1 m2 s1 s2
  nst := fun j χ h => by
    obtain ⟨ne, q⟩ := o.nstSet (v := none) (fun ψ e => by cases e) h
    obtain ⟨r, qs, h1, h2⟩ := o.nst j χ q
    refine ⟨r, qs, h1.to rfl (List.getElem?_set_ne ne) h1.mem (fun _ _ _ h => h) (Same.refl _) (fun _ r => r), fun b hb z => ?_⟩
    obtain ⟨m, k, g1, g2, g3⟩ := z
    rcases getK g1 with ⟨rfl, hl, _⟩ | ⟨n2, q2⟩
    · rw [List.getElem?_set_self (o.lt hl)] at g3
      cases g3
      exact nn (h1.nstA q hb)
    · rw [List.getElem?_set_ne n2] at g3
      exact h2 b hb ⟨m, k, q2, g2, g3⟩
  one := o.oneSet (fun ψ e => by cases e)
  base := o.base
  vis := o.vis
  sup := o.sup
  live := o.live
/-- the kind with another wish -/
def reK (k : Kd) (ψ : List D → Prop) : Kd := match k with | .bor _ => .bor ψ | _ => .own ψ
/-- a slot's list is written -/
theorem Ok.putO (o : Ok F ks M σ H) {i : Nat} {k : Kd} {p : Addr} (hk : ks[i]? = some k) (hm : isM k = true) (hp : σ[i]? = some (some (.ref p))) {vs : List V} {ds : List D} {ψ : List D → Prop} (a : Ats F.K (hid M H) vs ds) (f : ψ ds) :
    Ok F (ks.set i (reK k ψ)) M σ (upd H p (.lst vs)) := by
  obtain ⟨p', φ, h1, h2, h3, us, es, h4, h5, h6⟩ := o.mAt hk hm
  rw [hp] at h1
  cases h1
  have hne : ∀ j l q, j ≠ i → ks[j]? = some l → isM l = true → σ[j]? = some (some (.ref q)) → q ≠ p := fun j l q n e m s z => by
    subst z
    exact n (o.inj j i l k q e hk m hm s hp)
  have keep : ∀ {x : Option (Option V)} {q : Addr} {χ : List D → Prop}, q ≠ p → Has F M H x q χ → Has F M (upd H p (.lst vs)) x q χ := fun {x q χ} n h => by
    obtain ⟨g1, g2, g3, ws, fs, g4, g5, g6⟩ := h
    exact ⟨g1, g2, g3, ws, fs, by rw [upd_ne n]; exact g4, by rw [hid_upd h2]; exact g5, g6⟩
  have new : Has F M (upd H p (.lst vs)) σ[i]? p ψ := ⟨hp, h2, h3, vs, ds, upd_same, by rw [hid_upd h2]; exact a, f⟩
  have ownB : ∀ b, OwnA (ks.set i (reK k ψ)) σ b → OwnA ks σ b := fun b z => by
    obtain ⟨j, l, g1, g2, g3⟩ := z
    rcases getK g1 with ⟨rfl, _, _⟩ | ⟨_, q⟩
    · exact ⟨i, k, hk, hm, g3⟩
    · exact ⟨j, l, q, g2, g3⟩
  have nn : ∀ ψ', reK k ψ ≠ .nst ψ' := fun ψ' e => by cases k <;> cases e
  have hN : ∀ (j : Nat) (χ : List (List D) → Prop), (ks.set i (reK k ψ))[j]? = some (.nst χ) → ∃ r qs, Nes F M (upd H p (.lst vs)) σ[j]? r qs χ ∧ ∀ a ∈ r :: qs, ¬ OwnA (ks.set i (reK k ψ)) σ a := fun j χ e => by
    obtain ⟨ne, q⟩ := o.nstSet (v := none) nn e
    obtain ⟨r, qs, g1, g2⟩ := o.nst j χ q
    exact ⟨r, qs, g1.to rfl rfl g1.mem (fun b hb u gu => by rw [upd_ne (fun z => g2 b hb (by rw [z]; exact ⟨i, k, hk, hm, hp⟩))]; exact gu) (by rw [hid_upd h2]; exact Same.refl _) (fun _ r => r), fun b hb z => g2 b hb (ownB b z)⟩
  refine ⟨by rw [List.length_set]; exact o.len, fun j d e => ?_, fun j χ e => ?_, fun j χ e => ?_, fun j l x y q e1 e2 m1 m2 s1 s2 => ?_, hN, o.oneSet nn, same_mut o.base h3, by rw [hid_upd h2]; exact o.vis, o.sup, fun b z => ?_⟩
  · rcases getK e with ⟨rfl, _, q⟩ | ⟨_, q⟩
    · cases k <;> cases q
    · rw [hid_upd h2]
      exact o.dat j d q
  · rcases getK e with ⟨rfl, _, q⟩ | ⟨n, q⟩
    · cases k with
      | any => cases hm
      | dat d => cases hm
      | nst _ => cases hm
      | bor _ => cases q
      | own φ' =>
        cases q
        obtain ⟨p2, g1, g2, _⟩ := o.own i φ' hk
        rw [hp] at g2
        cases g2
        exact ⟨p, g1, new⟩
    · obtain ⟨p2, g1, g2⟩ := o.own j χ q
      exact ⟨p2, g1, keep (hne j _ p2 (Ne.symm n) q rfl g2.1) g2⟩
  · rcases getK e with ⟨rfl, _, q⟩ | ⟨n, q⟩
    · cases k with
      | any => cases hm
      | dat d => cases hm
      | nst _ => cases hm
      | own _ => cases q
      | bor φ' =>
        cases q
        obtain ⟨p2, g1, g2, _⟩ := o.bor i φ' hk
        rw [hp] at g2
        cases g2
        exact ⟨p, g1, new⟩
    · obtain ⟨p2, g1, g2⟩ := o.bor j χ q
      exact ⟨p2, g1, keep (hne j _ p2 (Ne.symm n) q rfl g2.1) g2⟩
  · have back : ∀ (j : Nat) (x : Kd), (ks.set i (reK k ψ))[j]? = some x → isM x = true → ∃ x', ks[j]? = some x' ∧ isM x' = true := fun j x e m => by
      rcases getK e with ⟨rfl, _, q⟩ | ⟨n, q⟩
      · exact ⟨k, hk, hm⟩
      · exact ⟨x, q, m⟩
    obtain ⟨x', e1', m1'⟩ := back j x e1 m1
    obtain ⟨y', e2', m2'⟩ := back l y e2 m2
    exact o.inj j l x' y' q e1' e2' m1' m2' s1 s2
  · by_cases e : b = p
    · exact ⟨_, by rw [e, upd_same]⟩
    · rw [upd_ne e]
      exact o.live b z
/-- weaker kinds -/
def KLe : Kd → Kd → Prop
  | _, .any => True
  | .dat d, .dat e => d = e
  | .own φ, .own ψ => ∀ ds, φ ds → ψ ds
  | .bor φ, .bor ψ => ∀ ds, φ ds → ψ ds
  | .nst φ, .nst ψ => ∀ ds, φ ds → ψ ds
  | _, _ => False
theorem KLe.refl : ∀ k, KLe k k
  | .any => trivial
  | .dat _ => rfl
  | .own _ => fun _ h => h
  | .bor _ => fun _ h => h
  | .nst _ => fun _ h => h
def KsLe (ks ks' : List Kd) : Prop := ks.length = ks'.length ∧ ∀ (i : Nat) (k k' : Kd), ks[i]? = some k → ks'[i]? = some k' → KLe k k'
theorem Ok.weak {ks' : List Kd} (o : Ok F ks M σ H) (w : KsLe ks ks') : Ok F ks' M σ H := by
  have get : ∀ (i : Nat) (k' : Kd), ks'[i]? = some k' → ∃ k, ks[i]? = some k ∧ KLe k k' := fun i k' h => by
    have l : i < ks.length := by rw [w.1]; exact (List.getElem?_eq_some_iff.mp h).1
    exact ⟨ks[i], List.getElem?_eq_getElem l, w.2 i _ _ (List.getElem?_eq_getElem l) h⟩
  have back : ∀ (j : Nat) (x : Kd), ks'[j]? = some x → isM x = true → ∃ x', ks[j]? = some x' ∧ isM x' = true := fun j x e m => by
    obtain ⟨k, h1, h2⟩ := get j _ e
    refine ⟨k, h1, ?_⟩
    cases x with
    | any => cases m
    | dat d => cases m
    | nst _ => cases m
    | own φ =>
      cases k with
      | own _ => rfl
      | _ => exact h2.elim
    | bor φ =>
      cases k with
      | bor _ => rfl
      | _ => exact h2.elim
  have ownB : ∀ b, OwnA ks' σ b → OwnA ks σ b := fun b ⟨j, l, g1, g2, g3⟩ => by
    obtain ⟨x', e, m⟩ := back j l g1 g2
    exact ⟨j, x', e, m, g3⟩
  have getN : ∀ (j : Nat) (χ : List (List D) → Prop), ks'[j]? = some (.nst χ) → ∃ φ, ks[j]? = some (.nst φ) ∧ ∀ r, φ r → χ r := fun j χ e => by
    obtain ⟨k, h1, h2⟩ := get j _ e
    cases k with
    | nst φ => exact ⟨φ, h1, h2⟩
    | _ => exact h2.elim
  refine ⟨o.len.trans w.1, fun j d e => ?_, fun j χ e => ?_, fun j χ e => ?_, fun j l x y q e1 e2 m1 m2 s1 s2 => ?_, fun j χ e => ?_, fun j l χ ξ e1 e2 => ?_, o.base, o.vis, o.sup, o.live⟩
  · obtain ⟨k, h1, h2⟩ := get j _ e
    cases k with
    | dat d' =>
      cases (show d' = d from h2)
      exact o.dat j d h1
    | _ => exact h2.elim
  · obtain ⟨k, h1, h2⟩ := get j _ e
    cases k with
    | own φ =>
      obtain ⟨p, g1, g2⟩ := o.own j φ h1
      exact ⟨p, g1, g2.imp h2⟩
    | _ => exact h2.elim
  · obtain ⟨k, h1, h2⟩ := get j _ e
    cases k with
    | bor φ =>
      obtain ⟨p, g1, g2⟩ := o.bor j φ h1
      exact ⟨p, g1, g2.imp h2⟩
    | _ => exact h2.elim
  · obtain ⟨x', e1', m1'⟩ := back j x e1 m1
    obtain ⟨y', e2', m2'⟩ := back l y e2 m2
    exact o.inj j l x' y' q e1' e2' m1' m2' s1 s2
  · obtain ⟨φ, h1, h2⟩ := getN j χ e
    obtain ⟨p, qs, g1, g2⟩ := o.nst j φ h1
    exact ⟨p, qs, g1.to rfl rfl g1.mem (fun _ _ _ h => h) (Same.refl _) h2, fun a ha z => g2 a ha (ownB a z)⟩
  · obtain ⟨φ, h1, _⟩ := getN j χ e1
    obtain ⟨ψ, h2, _⟩ := getN l ξ e2
    exact o.one j l φ ψ h1 h2
theorem Cont.weak {ks' : List Kd} {N : Sg → Hp → Prop} (h : Cont F ks' N) (w : KsLe ks ks') : Cont F ks N := fun M σ H o => h M σ H (o.weak w)
/-- a list of one's own that is not changed any more -/
theorem Ok.freeze (o : Ok F ks M σ H) {i : Nat} {ds : List D} (h : ks[i]? = some (.own fun x => x = ds)) : ∃ M', Ok F (ks.set i (.dat (.lst ds))) M' σ H := by
  obtain ⟨p, n0, h1, h2, h3, vs, es, h4, h5, h6⟩ := o.own i _ h
  subst h6
  have sub : ∀ a, a ∈ M.filter (fun a => decide (a ≠ p)) → a ∈ M := fun a z => (List.mem_filter.mp z).1
  have np : p ∉ M.filter (fun a => decide (a ≠ p)) := fun z => by
    have := (List.mem_filter.mp z).2
    simp at this
  have inn : ∀ a, a ∈ M → a ≠ p → a ∈ M.filter (fun a => decide (a ≠ p)) := fun a z n => List.mem_filter.mpr ⟨z, decide_eq_true n⟩
  have hne : ∀ j l q, j ≠ i → ks[j]? = some l → isM l = true → σ[j]? = some (some (.ref q)) → q ≠ p := fun j l q n e m s z => by
    subst z
    exact n (o.inj j i l _ q e h m rfl s h1)
  refine ⟨M.filter (fun a => decide (a ≠ p)), by rw [List.length_set]; exact o.len, fun j d e => ?_, fun j χ e => ?_, fun j χ e => ?_, fun j l x y q e1 e2 m1 m2 s1 s2 => ?_, fun j χ e => ?_, o.oneSet (fun ψ e => by cases e), o.base, o.vis.trans (hid_sub sub), fun a z => inn a (o.sup a z) (fun e => n0 (by rw [← e]; exact z)), fun b z => o.live b (sub b z)⟩
  · rcases getK e with ⟨rfl, _, q⟩ | ⟨_, q⟩
    · cases q
      exact ⟨_, h1, .lst (by rw [hid_out np]; exact h4) (h5.mono (hid_sub sub))⟩
    · obtain ⟨v, g1, g2⟩ := o.dat j d q
      exact ⟨v, g1, g2.mono (hid_sub sub)⟩
  · rcases getK e with ⟨rfl, _, q⟩ | ⟨n, q⟩
    · cases q
    · obtain ⟨p2, g1, g2, g3, g4, ws, fs, g5, g6, g7⟩ := o.own j χ q
      exact ⟨p2, g1, g2, inn p2 g3 (hne j _ p2 (Ne.symm n) q rfl g2), g4, ws, fs, g5, g6.mono (hid_sub sub), g7⟩
  · rcases getK e with ⟨rfl, _, q⟩ | ⟨n, q⟩
    · cases q
    · obtain ⟨p2, g1, g2, g3, g4, ws, fs, g5, g6, g7⟩ := o.bor j χ q
      exact ⟨p2, g1, g2, inn p2 g3 (hne j _ p2 (Ne.symm n) q rfl g2), g4, ws, fs, g5, g6.mono (hid_sub sub), g7⟩
  · rcases getK e1 with ⟨rfl, _, q1⟩ | ⟨n1, q1⟩
    · rw [← q1] at m1; cases m1
    · rcases getK e2 with ⟨rfl, _, q2⟩ | ⟨n2, q2⟩
      · rw [← q2] at m2; cases m2
      · exact o.inj j l x y q q1 q2 m1 m2 s1 s2
  · obtain ⟨ne, q⟩ := o.nstSet (v := none) (fun ψ e => by cases e) e
    obtain ⟨r, qs, g1, g2⟩ := o.nst j χ q
    refine ⟨r, qs, g1.to rfl rfl (fun a ha => ⟨inn a (g1.mem a ha).1 (fun z => g2 a ha (by rw [z]; exact ⟨i, _, h, rfl, h1⟩)), (g1.mem a ha).2⟩) (fun _ _ _ h => h) (hid_sub sub) (fun _ r => r), fun a ha z => g2 a ha ?_⟩
    obtain ⟨m, l, e1, e2, e3⟩ := z
    rcases getK e1 with ⟨_, _, q1⟩ | ⟨_, q1⟩
    · rw [← q1] at e2; cases e2
    · exact ⟨m, l, q1, e2, e3⟩
theorem cont_freeze {N : Sg → Hp → Prop} (i : Nat) {ds : List D} (h : ks[i]? = some (.own fun x => x = ds)) (c : Cont F (ks.set i (.dat (.lst ds))) N) : Cont F ks N := fun M σ H o => by
  obtain ⟨M', o'⟩ := o.freeze h
  exact c M' σ H o'
/-! ### targets -/
def GB (F : Fm) (g : TG) (ks : List Kd) (d : D) (ks' : List Kd) : Prop := ∀ M σ H v, Ok F ks M σ H → At F.K (hid M H) v d → ∀ Q : Sg → Hp → Prop, (∀ σ', Ok F ks' M σ' H → Q σ' H) → g v σ H Q
theorem gb_name {i : Nat} {d : D} : GB F (gName i) ks d (ks.set i (.dat d)) := fun M σ H v o a Q q => q _ (o.setD a)
theorem gb_tup2 {i j : Nat} {a b : D} : GB F (gTup F.K 2 (gCons (gName i) (gCons (gName j) gNil))) ks (.tup [a, b]) ((ks.set i (.dat a)).set j (.dat b)) := fun M σ H v o h Q q => by
  cases h with
  | tup hs hd =>
    cases hd with
    | cons h1 hd =>
      cases hd with
      | cons h2 hd =>
        cases hd
        exact ⟨_, _, rfl, same_t hid_same hs, rfl, _, _, rfl, _, _, rfl, rfl, q _ ((o.setD h1).setD h2)⟩
theorem gb_tup3 {i j k : Nat} {a b c : D} : GB F (gTup F.K 3 (gCons (gName i) (gCons (gName j) (gCons (gName k) gNil)))) ks (.tup [a, b, c]) (((ks.set i (.dat a)).set j (.dat b)).set k (.dat c)) := fun M σ H v o h Q q => by
  cases h with
  | tup hs hd =>
    cases hd with
    | cons h1 hd =>
      cases hd with
      | cons h2 hd =>
        cases hd with
        | cons h3 hd =>
          cases hd
          exact ⟨_, _, rfl, same_t hid_same hs, rfl, _, _, rfl, _, _, rfl, _, _, rfl, rfl, q _ (((o.setD h1).setD h2).setD h3)⟩
/-! ### what is walked -/
structure ItOk (F : Fm) (J : It) (items : List D) (S : Hp → Prop) : Prop where
  mono : ∀ G G', Same G G' → S G → S G'
  go : ∀ M H i, S (hid M H) → i < items.length → J.go i H
  yld : ∀ M H i x H' d, (∀ a ∈ M, ∃ o, H a = some o) → S (hid M H) → items[i]? = some d → J.yld i H x H' → Same H H' ∧ At F.K (hid M H') x d
  stop : ∀ M H, S (hid M H) → J.stop items.length H
def EvIR (F : Fm) (ks : List Kd) (wi : TI) (RI : List D → Prop) : Prop := ∀ M σ H, Ok F ks M σ H → ∀ R : It → Hp → Prop, (∀ J S items H', Ok F ks M σ H' → Step ks σ H H' → RI items → ItOk F J items S → S (hid M H') → R J H') → wi σ H R
abbrev EvI (F : Fm) (ks : List Kd) (wi : TI) (items : List D) : Prop := EvIR F ks wi (fun x => x = items)
theorem itl_ok {K : PySem.W.Frag} (hK : K = F.K) {a : Addr} {ds : List D} : ItOk F (Itl K a) ds (fun G => ∃ xs, SqL F.K G a xs ∧ Ats F.K G xs ds) where
  mono := fun G G' e ⟨xs, h1, h2⟩ => ⟨xs, same_l e h1, h2.mono e⟩
  go := fun M H i ⟨xs, h1, h2⟩ l => by
    subst hK
    have l2 : i < xs.length := by rw [h2.length]; exact l
    exact ⟨xs, xs[i], same_l hid_same h1, List.getElem?_eq_getElem l2⟩
  yld := fun M H i x H' d _ ⟨xs, h1, h2⟩ e y => by
    subst hK
    obtain ⟨e1, y⟩ := y
    subst e1
    have g := y xs (same_l hid_same h1)
    obtain ⟨v, g1, g2⟩ := h2.get e
    rw [g] at g1
    cases g1
    exact ⟨Same.refl _, g2⟩
  stop := fun M H ⟨xs, h1, h2⟩ => by
    subst hK
    exact ⟨xs, same_l hid_same h1, by rw [h2.length]; exact Nat.le_refl _⟩
theorem itt_ok {K : PySem.W.Frag} (hK : K = F.K) {a : Addr} {ds : List D} : ItOk F (Itt K a) ds (fun G => ∃ xs, SqT F.K G a xs ∧ Ats F.K G xs ds) where
  mono := fun G G' e ⟨xs, h1, h2⟩ => ⟨xs, same_t e h1, h2.mono e⟩
  go := fun M H i ⟨xs, h1, h2⟩ l => by
    subst hK
    have l2 : i < xs.length := by rw [h2.length]; exact l
    exact ⟨xs, xs[i], same_t hid_same h1, List.getElem?_eq_getElem l2⟩
  yld := fun M H i x H' d _ ⟨xs, h1, h2⟩ e y => by
    subst hK
    obtain ⟨e1, y⟩ := y
    subst e1
    have g := y xs (same_t hid_same h1)
    obtain ⟨v, g1, g2⟩ := h2.get e
    rw [g] at g1
    cases g1
    exact ⟨Same.refl _, g2⟩
  stop := fun M H ⟨xs, h1, h2⟩ => by
    subst hK
    exact ⟨xs, same_t hid_same h1, by rw [h2.length]; exact Nat.le_refl _⟩
theorem ei_listR {te : TE} {RI : List D → Prop} (h : EvR F ks te (fun d => ∃ ds, RI ds ∧ d = .lst ds)) : EvIR F ks (iList F.K te) RI := fun M σ H o R q => h M σ H o _ fun v d H1 o1 s1 a1 ⟨ds, r1, e⟩ => by
  subst e
  cases a1 with
  | lst hl hs => exact ⟨_, rfl, ⟨_, .inl (.inl (hid_same _ _ hl))⟩, q _ _ ds H1 o1 s1 r1 (itl_ok rfl) ⟨_, .inl (.inl hl), hs⟩⟩
theorem ei_list {te : TE} {ds : List D} (h : Ev F ks te (.lst ds)) : EvI F ks (iList F.K te) ds := ei_listR (h.imp fun d e => ⟨ds, rfl, e⟩)
theorem ei_sls {te : TE} {ds : List D} (h : Ev F ks te (.sls ds)) : EvI F ks (iList F.K te) ds := fun M σ H o R q => h M σ H o _ fun v d H1 o1 s1 a1 e => by
  subst e
  cases a1 with
  | sls hl hs => exact ⟨_, rfl, ⟨_, same_l hid_same hl⟩, q _ _ ds H1 o1 s1 rfl (itl_ok rfl) ⟨_, hl, hs⟩⟩
theorem ei_tupR {te : TE} {RI : List D → Prop} (h : EvR F ks te (fun d => ∃ ds, RI ds ∧ d = .tup ds)) : EvIR F ks (iTup F.K te) RI := fun M σ H o R q => h M σ H o _ fun v d H1 o1 s1 a1 ⟨ds, r1, e⟩ => by
  subst e
  cases a1 with
  | tup hl hs => exact ⟨_, rfl, ⟨_, same_t hid_same hl⟩, q _ _ ds H1 o1 s1 r1 (itt_ok rfl) ⟨_, hl, hs⟩⟩
theorem ei_tup {te : TE} {ds : List D} (h : Ev F ks te (.tup ds)) : EvI F ks (iTup F.K te) ds := ei_tupR (h.imp fun d e => ⟨ds, rfl, e⟩)
/-- the numbers from lo on -/
def ups (lo : Int) (n : Nat) : List D := (List.range n).map fun k => .int (lo + (k : Nat))
theorem ups_length {lo : Int} {n : Nat} : (ups lo n).length = n := by unfold ups; rw [List.length_map, List.length_range]
theorem ups_get {lo : Int} {n i : Nat} {d : D} (h : (ups lo n)[i]? = some d) : i < n ∧ d = .int (lo + (i : Nat)) := by
  unfold ups at h
  rw [List.getElem?_map] at h
  by_cases l : i < n
  · rw [List.getElem?_range l] at h
    exact ⟨l, (Option.some.inj h).symm⟩
  · rw [List.getElem?_eq_none (by rw [List.length_range]; omega)] at h
    cases h
theorem itr_ok {lo : Int} {n : Nat} : ItOk F (Itr lo n) (ups lo n) (fun _ => True) where
  mono := fun _ _ _ h => h
  go := fun M H i _ l => by rw [ups_length] at l; exact l
  yld := fun M H i x H' d _ _ e y => by
    obtain ⟨e1, e2⟩ := y
    subst e1; subst e2
    rw [(ups_get e).2]
    exact ⟨Same.refl _, .int _⟩
  stop := fun M H _ => by rw [ups_length]; exact Nat.le_refl n
theorem ei_rng1R {ta : TA} {RI : List D → Prop} (h : EvAR F ks ta (fun ds => ∃ n : Int, ds = [.int n] ∧ -(2 ^ 62) ≤ n ∧ n < 2 ^ 62 ∧ RI (ups 0 n.toNat))) : EvIR F ks (iRng1 ta) RI := fun M σ H o R q => h M σ H o _ fun vs ds H1 o1 s1 a1 ⟨n, e, b1, b2, r1⟩ => by
  subst e
  have e2 := Ats.ints (ns := [n]) a1
  subst e2
  exact ⟨n, rfl, b1, b2, q _ _ _ H1 o1 s1 r1 itr_ok trivial⟩
theorem ei_rng1 {ta : TA} {n : Int} (h : EvA F ks ta [.int n]) (b : -(2 ^ 62) ≤ n ∧ n < 2 ^ 62) : EvI F ks (iRng1 ta) (ups 0 n.toNat) := ei_rng1R fun M σ H o Q q => h M σ H o Q fun vs ds H1 o1 s1 a1 e => q vs ds H1 o1 s1 a1 ⟨n, e, b.1, b.2, rfl⟩
theorem ei_rng2 {ta : TA} {lo hi : Int} (h : EvA F ks ta [.int lo, .int hi]) (b : -(2 ^ 62) ≤ lo ∧ lo < 2 ^ 62 ∧ -(2 ^ 62) ≤ hi ∧ hi < 2 ^ 62) : EvI F ks (iRng2 ta) (ups lo (hi - lo).toNat) := fun M σ H o R q => h M σ H o _ fun vs ds H1 o1 s1 a1 e => by
  subst e
  have e2 := Ats.ints (ns := [lo, hi]) a1
  subst e2
  exact ⟨lo, hi, rfl, b, q _ _ _ H1 o1 s1 rfl itr_ok trivial⟩
/-- pairs of zip -/
def zips (xs ys : List D) : List D := (xs.zip ys).map fun p => .tup [p.1, p.2]
theorem zips_length {xs ys : List D} : (zips xs ys).length = min xs.length ys.length := by unfold zips; rw [List.length_map, List.length_zip]
theorem zips_get {xs ys : List D} {i : Nat} {d : D} (h : (zips xs ys)[i]? = some d) : ∃ x y, xs[i]? = some x ∧ ys[i]? = some y ∧ d = .tup [x, y] := by
  unfold zips at h
  rw [List.getElem?_map] at h
  cases e : (xs.zip ys)[i]? with
  | none => rw [e] at h; cases h
  | some p =>
    rw [e] at h
    obtain ⟨h1, h2⟩ := List.getElem?_zip_eq_some.mp e
    exact ⟨p.1, p.2, h1, h2, (Option.some.inj h).symm⟩
theorem itz_ok {K : PySem.W.Frag} (hK : K = F.K) {a b : Addr} {xs ys : List D} : ItOk F (Itz K a b) (zips xs ys) (fun G => (∃ us, SqL F.K G a us ∧ Ats F.K G us xs) ∧ ∃ us, SqL F.K G b us ∧ Ats F.K G us ys) where
  mono := fun G G' e ⟨⟨us, h1, h2⟩, ws, h3, h4⟩ => ⟨⟨us, same_l e h1, h2.mono e⟩, ws, same_l e h3, h4.mono e⟩
  go := fun M H i ⟨⟨us, h1, h2⟩, ws, h3, h4⟩ l => by
    subst hK
    rw [zips_length] at l
    have l1 : i < us.length := by rw [h2.length]; omega
    have l2 : i < ws.length := by rw [h4.length]; omega
    exact ⟨us, ws, us[i], ws[i], same_l hid_same h1, same_l hid_same h3, List.getElem?_eq_getElem l1, List.getElem?_eq_getElem l2⟩
  yld := fun M H i v H' d lv ⟨⟨us, h1, h2⟩, ws, h3, h4⟩ e y => by
    subst hK
    obtain ⟨T, x, y', rfl, nT, rfl, f1, f2⟩ := y
    obtain ⟨dx, dy, e1, e2, e3⟩ := zips_get e
    obtain ⟨vx, g1, g2⟩ := h2.get e1
    obtain ⟨vy, g3, g4⟩ := h4.get e2
    have k1 := f1 us (same_l hid_same h1)
    have k2 := f2 ws (same_l hid_same h3)
    rw [g1] at k1
    rw [g3] at k2
    cases k1; cases k2
    have sm : Same H (upd H T (.tup [x, y'])) := same_new nT
    have nM : T ∉ M := fun z => by
      obtain ⟨u, q⟩ := lv T z
      rw [nT] at q; cases q
    subst e3
    exact ⟨sm, .tup (.inl (.inl (by rw [hid_out nM, upd_same]))) (.cons (g2.mono (hid_mono sm)) (.cons (g4.mono (hid_mono sm)) .nil))⟩
  stop := fun M H ⟨⟨us, h1, h2⟩, ws, h3, h4⟩ => by
    subst hK
    refine ⟨us, ws, same_l hid_same h1, same_l hid_same h3, ?_⟩
    rw [zips_length, h2.length, h4.length]
    omega
theorem itzT_ok {K : PySem.W.Frag} (hK : K = F.K) {a b : Addr} {xs ys : List D} : ItOk F (RZ.ItzT K a b) (zips xs ys) (fun G => (∃ us, SqT F.K G a us ∧ Ats F.K G us xs) ∧ ∃ us, SqT F.K G b us ∧ Ats F.K G us ys) where
  mono := fun G G' e ⟨⟨us, h1, h2⟩, ws, h3, h4⟩ => ⟨⟨us, same_t e h1, h2.mono e⟩, ws, same_t e h3, h4.mono e⟩
  go := fun M H i ⟨⟨us, h1, h2⟩, ws, h3, h4⟩ l => by
    subst hK
    rw [zips_length] at l
    have l1 : i < us.length := by rw [h2.length]; omega
    have l2 : i < ws.length := by rw [h4.length]; omega
    exact ⟨us, ws, us[i], ws[i], same_t hid_same h1, same_t hid_same h3, List.getElem?_eq_getElem l1, List.getElem?_eq_getElem l2⟩
  yld := fun M H i v H' d lv ⟨⟨us, h1, h2⟩, ws, h3, h4⟩ e y => by
    subst hK
    obtain ⟨T, x, y', rfl, nT, rfl, f1, f2⟩ := y
    obtain ⟨dx, dy, e1, e2, e3⟩ := zips_get e
    obtain ⟨vx, g1, g2⟩ := h2.get e1
    obtain ⟨vy, g3, g4⟩ := h4.get e2
    have k1 := f1 us (same_t hid_same h1)
    have k2 := f2 ws (same_t hid_same h3)
    rw [g1] at k1
    rw [g3] at k2
    cases k1; cases k2
    have sm : Same H (upd H T (.tup [x, y'])) := same_new nT
    have nM : T ∉ M := fun z => by
      obtain ⟨u, q⟩ := lv T z
      rw [nT] at q; cases q
    subst e3
    exact ⟨sm, .tup (.inl (.inl (by rw [hid_out nM, upd_same]))) (.cons (g2.mono (hid_mono sm)) (.cons (g4.mono (hid_mono sm)) .nil))⟩
  stop := fun M H ⟨⟨us, h1, h2⟩, ws, h3, h4⟩ => by
    subst hK
    refine ⟨us, ws, same_t hid_same h1, same_t hid_same h3, ?_⟩
    rw [zips_length, h2.length, h4.length]
    omega
theorem ei_zipL {ta : TA} {xs ys : List D} (h : EvA F ks ta [.lst xs, .lst ys]) : EvI F ks (RZ.iZipA F.K ta) (zips xs ys) := fun M σ H o R q => h M σ H o _ fun vs ds H1 o1 s1 a1 e => by
  subst e
  cases a1 with
  | cons a1 a2 =>
    cases a2 with
    | cons a2 a3 =>
      cases a3
      cases a1 with
      | lst hl hs =>
        cases a2 with
        | lst hl2 hs2 => exact ⟨_, _, _, _, rfl, .inl ⟨.inl (.inl (hid_same _ _ hl)), .inl (.inl (hid_same _ _ hl2)), q _ _ _ H1 o1 s1 rfl (itz_ok rfl) ⟨⟨_, .inl (.inl hl), hs⟩, _, .inl (.inl hl2), hs2⟩⟩⟩
theorem ei_zipT {ta : TA} {xs ys : List D} (h : EvA F ks ta [.tup xs, .tup ys]) : EvI F ks (RZ.iZipA F.K ta) (zips xs ys) := fun M σ H o R q => h M σ H o _ fun vs ds H1 o1 s1 a1 e => by
  subst e
  cases a1 with
  | cons a1 a2 =>
    cases a2 with
    | cons a2 a3 =>
      cases a3
      cases a1 with
      | tup hl hs =>
        cases a2 with
        | tup hl2 hs2 => exact ⟨_, _, _, _, rfl, .inr ⟨same_t hid_same hl, same_t hid_same hl2, q _ _ _ H1 o1 s1 rfl (itzT_ok rfl) ⟨⟨_, hl, hs⟩, _, hl2, hs2⟩⟩⟩
/-! ### statements -/
variable {E : Ends}
theorem run_seq {t u : TS} (h : Run F ks t { E with nx := u E }) : Run F ks (tSeq t u) E := h
theorem run_next (h : Cont F ks E.nx) : Run F ks tNext E := h
theorem run_asgR {te : TE} {i : Nat} {R : D → Prop} (h : EvR F ks te R) (c : ∀ d, R d → Cont F (ks.set i (.dat d)) E.nx) : Run F ks (tAsg te (gName i)) E := fun M σ H o => h M σ H o _ fun v d H1 o1 s1 a1 r1 => c d r1 M _ H1 (o1.setD a1)
theorem run_asg {te : TE} {i : Nat} {d : D} (h : Ev F ks te d) (c : Cont F (ks.set i (.dat d)) E.nx) : Run F ks (tAsg te (gName i)) E := run_asgR h fun e q => by rw [q]; exact c
theorem run_asgLR {te : TE} {i : Nat} {R : List D → Prop} (h : EvLR F ks te R) (c : Cont F (ks.set i (.own R)) E.nx) : Run F ks (tAsg te (gName i)) E := fun M σ H o => h M σ H o _ fun p vs ds H1 n o1 s1 l1 a1 r1 =>
  c _ _ H1 (o1.setO (o.noOwn n) (o.nstFresh s1 n) (fun z => o.fresh n (o.sup p z)) (o.baseNone n) l1 a1 r1)
theorem run_asgL {te : TE} {i : Nat} {ds : List D} (h : EvL F ks te ds) (c : Cont F (ks.set i (.own fun x => x = ds)) E.nx) : Run F ks (tAsg te (gName i)) E := run_asgLR h c
/-- x, y = e -/
theorem run_asgG {te : TE} {g : TG} {d : D} {ks' : List Kd} (h : Ev F ks te d) (hg : GB F g ks d ks') (c : Cont F ks' E.nx) : Run F ks (tAsg te g) E := fun M σ H o => h M σ H o _ fun v d H1 o1 s1 a1 r1 => by
  subst r1
  exact hg M σ H1 v o1 a1 _ fun σ' o2 => c M σ' H1 o2
theorem run_retR {te : TE} {R : D → Prop} (h : EvR F ks te R) (c : ∀ M v d σ H, Ok F ks M σ H → At F.K (hid M H) v d → R d → E.rt v H) : Run F ks (tRet te) E := fun M σ H o => h M σ H o _ fun v d H1 o1 s1 a1 r1 => c M v d σ H1 o1 a1 r1
theorem run_drop {te : TE} {R : D → Prop} (h : EvR F ks te R) (c : Cont F ks E.nx) : Run F ks (tDrop te) E := fun M σ H o => h M σ H o _ fun v d H1 o1 s1 a1 r1 => c M σ H1 o1
theorem run_ifR {tt : TT} {t u : TS} {R : Bool → Prop} (h : EvTR F ks tt R) (h1 : R true → Run F ks t E) (h2 : R false → Run F ks u E) : Run F ks (tIfS tt t u) E := fun M σ H o => h M σ H o _ fun b H1 o1 s1 r1 => by
  cases b with
  | true => exact h1 r1 M σ H1 o1
  | false => exact h2 r1 M σ H1 o1
theorem run_if {tt : TT} {t u : TS} {b : Bool} (h : EvT F ks tt b) (h1 : b = true → Run F ks t E) (h2 : b = false → Run F ks u E) : Run F ks (tIfS tt t u) E := run_ifR h (fun e => h1 e.symm) fun e => h2 e.symm
theorem run_brk (h : Cont F ks E.bk) : Run F ks tBreak E := h
theorem run_ct (h : Cont F ks E.ct) : Run F ks tCont E := h
def wishK : Kd → List D → Prop
  | .own φ => φ
  | .bor φ => φ
  | _ => fun _ => False
theorem Ok.wish (o : Ok F ks M σ H) {i : Nat} {k : Kd} (h : ks[i]? = some k) (m : isM k = true) : ∃ p, Has F M H σ[i]? p (wishK k) := by
  cases k with
  | any => cases m
  | dat d => cases m
  | nst _ => cases m
  | own φ =>
    obtain ⟨p, _, h1⟩ := o.own i φ h
    exact ⟨p, h1⟩
  | bor φ =>
    obtain ⟨p, _, h1⟩ := o.bor i φ h
    exact ⟨p, h1⟩
/-- xs.append(e) -/
theorem run_appR {te : TE} {i : Nat} {k : Kd} {R : D → Prop} (hk : ks[i]? = some k) (hm : isM k = true) (h : EvR F ks te R) (hz : ∀ ds, wishK k ds → ds.length < sizeLine) (c : Cont F (ks.set i (reK k fun x => ∃ ds d, wishK k ds ∧ R d ∧ x = ds ++ [d])) E.nx) :
    Run F ks (tDrop (tBM F.K "list" rAppend (tVar i) (tCons te tNil))) E := fun M σ H o => by
  obtain ⟨p, h1, h2, h3, vs, ds, h4, h5, h6⟩ := o.wish hk hm
  refine ⟨.ref p, h1, .inl ⟨rfl, vs, .inl (.inl h4)⟩, ?_⟩
  refine h M σ H o _ fun v d H1 o1 s1 a1 r1 => ?_
  obtain ⟨p', h1', h2', h3', vs', ds', h4', h5', h6'⟩ := o1.wish hk hm
  rw [h1] at h1'
  cases h1'
  refine ⟨p, vs', v, rfl, rfl, h4', by rw [h5'.length]; exact hz _ h6', ?_⟩
  exact c M σ _ (o1.putO hk hm h1 (h5'.append (.cons a1 .nil)) ⟨ds', d, h6', r1, rfl⟩)
theorem run_app {te : TE} {i : Nat} {ds : List D} {d : D} (hk : ks[i]? = some (.own fun x => x = ds)) (h : Ev F ks te d) (hz : ds.length < sizeLine) (c : Cont F (ks.set i (.own fun x => x = ds ++ [d])) E.nx) :
    Run F ks (tDrop (tBM F.K "list" rAppend (tVar i) (tCons te tNil))) E := run_appR hk rfl h (fun es e => by rw [show es = ds from e]; exact hz) fun M σ H o => c M σ H (o.weak ⟨by rw [List.length_set, List.length_set], fun j k k' e1 e2 => by
  rcases getK e1 with ⟨rfl, _, q⟩ | ⟨n, q⟩
  · rcases getK e2 with ⟨_, _, q2⟩ | ⟨n2, _⟩
    · subst q; subst q2
      exact fun x ⟨es, e, r1, r2, r3⟩ => by rw [r3, show es = ds from r1, r2]
    · exact absurd rfl n2
  · rcases getK e2 with ⟨z, _, _⟩ | ⟨_, q2⟩
    · exact absurd z n
    · rw [q] at q2
      cases q2
      exact KLe.refl k⟩)
/-- xs[j] = e -/
theorem run_setR {te ti : TE} {i : Nat} {k : Kd} {R : D → Prop} {Ri : Int → Prop} (hk : ks[i]? = some k) (hm : isM k = true) (h : EvR F ks te R) (hi : EvR F ks ti (fun d => ∃ j, Ri j ∧ d = .int j)) {ψ : List D → Prop}
    (hz : ∀ ds d j, wishK k ds → R d → Ri j → ∃ m, ixN ds.length j = some m ∧ ψ (ds.set m d)) (c : Cont F (ks.set i (reK k ψ)) E.nx) :
    Run F ks (tAsg te (gSub (tVar i) ti rSetL)) E := fun M σ H o => h M σ H o _ fun v d H1 o1 s1 a1 r1 => by
  obtain ⟨p, h1, h2, h3, vs, ds, h4, h5, h6⟩ := o1.wish hk hm
  refine ⟨.ref p, h1, ?_⟩
  refine hi M σ H1 o1 _ fun u e H2 o2 s2 a2 ⟨j, r2, e2⟩ => ?_
  subst e2
  cases a2
  obtain ⟨p', h1', h2', h3', vs', ds', h4', h5', h6'⟩ := o2.wish hk hm
  rw [h1] at h1'
  cases h1'
  obtain ⟨m, g1, g2⟩ := hz ds' d j h6' r1 r2
  refine ⟨p, vs', j, m, rfl, rfl, h4', by rw [h5'.length]; exact g1, ?_⟩
  exact c M σ _ (o2.putO hk hm h1 (h5'.set m (a1.mono (o1.hidStep s2))) g2)
theorem cont_own {i : Nat} {φ ψ : List D → Prop} {N : Sg → Hp → Prop} (w : ∀ x, φ x → ψ x) (c : Cont F (ks.set i (.own ψ)) N) : Cont F (ks.set i (.own φ)) N := fun M σ H o => c M σ H (o.weak ⟨by rw [List.length_set, List.length_set], fun j k k' e1 e2 => by
  rcases getK e1 with ⟨rfl, _, q⟩ | ⟨n, q⟩
  · rcases getK e2 with ⟨_, _, q2⟩ | ⟨n2, _⟩
    · subst q; subst q2
      exact w
    · exact absurd rfl n2
  · rcases getK e2 with ⟨z, _, _⟩ | ⟨_, q2⟩
    · exact absurd z n
    · rw [q] at q2
      cases q2
      exact KLe.refl k⟩)
theorem run_set {te ti : TE} {i m : Nat} {ds : List D} {d : D} {j : Int} (hk : ks[i]? = some (.own fun x => x = ds)) (h : Ev F ks te d) (hi : Ev F ks ti (.int j)) (hz : ixN ds.length j = some m) (c : Cont F (ks.set i (.own fun x => x = ds.set m d)) E.nx) :
    Run F ks (tAsg te (gSub (tVar i) ti rSetL)) E := run_setR (ψ := fun x => x = ds.set m d) (Ri := fun x => x = j) hk rfl h (hi.imp fun e q => ⟨j, rfl, q⟩) (fun es e l e1 e2 e3 => by
  rw [show es = ds from e1, e2, e3]
  exact ⟨m, hz, rfl⟩) c
/-- x = xs.pop(j) -/
theorem run_pop {ti : TE} {i x m : Nat} {ds : List D} {d : D} {j : Int} (hk : ks[i]? = some (.own fun x => x = ds)) (hi : Ev F ks ti (.int j)) (hj : j = (m : Int)) (hm : m < 2 ^ 62) (hd : ds[m]? = some d) (c : Cont F ((ks.set i (.own fun x => x = ds.eraseIdx m)).set x (.dat d)) E.nx) :
    Run F ks (tAsg (tBM F.K "list" rPopAt (tVar i) (tCons ti tNil)) (gName x)) E := fun M σ H o => by
  obtain ⟨p, h1, h2, h3, vs, es, h4, h5, h6⟩ := o.wish hk rfl
  refine ⟨.ref p, h1, .inl ⟨rfl, vs, .inl (.inl h4)⟩, ?_⟩
  refine hi M σ H o _ fun v e H1 o1 s1 a1 r1 => ?_
  subst r1
  cases a1
  obtain ⟨p', h1', h2', h3', vs', ds', h4', h5', h6'⟩ := o1.wish hk rfl
  rw [h1] at h1'
  cases h1'
  cases (show ds' = ds from h6')
  obtain ⟨u, g1, g2⟩ := h5'.get hd
  have l : m < vs'.length := (List.getElem?_eq_some_iff.mp g1).1
  subst hj
  refine ⟨p, vs', (m : Int), m, u, rfl, rfl, h4', by omega, by omega, ?_, g1, ?_⟩
  · rw [seqIndex_of (by omega) (by omega)]
    simp
  · have o2 := o1.putO hk rfl h1 (ψ := fun x => x = ds.eraseIdx m) (h5'.eraseIdx m) rfl
    refine c M _ _ (o2.setD ?_)
    rw [hid_upd h2']
    exact g2
/-! ### loops -/
structure Sub (F : Fm) (B G : Hp) : Prop where
  b : Same F.B B
  g : Same F.G G
theorem Ok.lift {B G : Hp} (w : Sub F B G) (o : Ok { F with B := B, G := G } ks M σ H) : Ok F ks M σ H where
  len := o.len
  dat := o.dat
  own := fun i φ h => by
    obtain ⟨p, h1, h2, h3, h4, h5⟩ := o.own i φ h
    refine ⟨p, h1, h2, h3, ?_, h5⟩
    cases e : F.B p with
    | none => rfl
    | some u =>
      have := w.b _ _ e
      rw [show B p = none from h4] at this
      cases this
  bor := fun i φ h => by
    obtain ⟨p, h1, h2, h3, h4, h5⟩ := o.bor i φ h
    refine ⟨p, h1, h2, h3, ?_, h5⟩
    cases e : F.B p with
    | none => rfl
    | some u =>
      have := w.b _ _ e
      rw [show B p = none from h4] at this
      cases this
  inj := o.inj
  nst := fun i φ h => by
    obtain ⟨p, qs, h1, h2⟩ := o.nst i φ h
    refine ⟨p, qs, h1.to rfl rfl (fun a ha => ⟨(h1.mem a ha).1, (h1.mem a ha).2.1, ?_⟩) (fun _ _ _ h => h) (Same.refl _) (fun _ r => r), h2⟩
    cases e : F.B a with
    | none => rfl
    | some u =>
      have := w.b _ _ e
      rw [show B a = none from (h1.mem a ha).2.2] at this
      cases this
  one := o.one
  base := w.b.trans o.base
  vis := w.g.trans o.vis
  sup := o.sup
  live := o.live
theorem Cont.sub {B G : Hp} {N : Sg → Hp → Prop} (w : Sub F B G) (h : Cont F ks N) : Cont { F with B := B, G := G } ks N := fun M σ H o => h M σ H (o.lift w)
/-- the heap without what may change -/
noncomputable def solid (ks : List Kd) (σ : Sg) (H : Hp) : Hp := fun a => open Classical in if OwnA ks σ a ∨ NstA ks σ H a then none else H a
theorem solid_same : Same (solid ks σ H) H := fun a o h => by
  unfold solid at h
  split at h
  · cases h
  · exact h
theorem Ok.tight (o : Ok F ks M σ H) : Sub F (solid ks σ H) (hid M H) ∧ Ok { F with B := solid ks σ H, G := hid M H } ks M σ H := by
  have sb : Same F.B (solid ks σ H) := fun a u h => by
    unfold solid
    rw [if_neg]
    · exact o.base _ _ h
    · rintro (⟨i, k, h1, h2, h3⟩ | z)
      · obtain ⟨p, φ, g1, g2, g3, _⟩ := o.mAt h1 h2
        rw [h3] at g1
        cases g1
        rw [g3] at h
        cases h
      · rw [(o.nstSome z).2.2.1] at h
        cases h
  have so : ∀ {i : Nat} {k : Kd} {p : Addr}, ks[i]? = some k → isM k = true → σ[i]? = some (some (.ref p)) → solid ks σ H p = none := fun {i k p} h1 h2 h3 => by
    unfold solid
    rw [if_pos (.inl ⟨i, k, h1, h2, h3⟩)]
  refine ⟨⟨sb, o.vis⟩, o.len, o.dat, fun i φ h => ?_, fun i φ h => ?_, o.inj, fun i φ h => ?_, o.one, solid_same, Same.refl _, o.sup, o.live⟩
  · obtain ⟨p, h1, h2, h3, h4, h5⟩ := o.own i φ h
    exact ⟨p, h1, h2, h3, so h rfl h2, h5⟩
  · obtain ⟨p, h1, h2, h3, h4, h5⟩ := o.bor i φ h
    exact ⟨p, h1, h2, h3, so h rfl h2, h5⟩
  · obtain ⟨p, qs, h1, h2⟩ := o.nst i φ h
    refine ⟨p, qs, h1.to rfl rfl (fun a ha => ⟨(h1.mem a ha).1, (h1.mem a ha).2.1, ?_⟩) (fun _ _ _ h => h) (Same.refl _) (fun _ r => r), h2⟩
    show solid ks σ H a = none
    unfold solid
    rw [if_pos (.inr (h1.nstA h ha))]
/-- one of the contexts that I tells -/
def Nx (F : Fm) (I : List Kd → Prop) : Sg → Hp → Prop := fun σ H => ∃ ks M, I ks ∧ Ok F ks M σ H
theorem cont_nx {I : List Kd → Prop} (h : I ks) : Cont F ks (Nx F I) := fun M σ H o => ⟨ks, M, h, o⟩
theorem run_forR {wi : TI} {g : TG} {tb : TS} {RI : List D → Prop} (hi : EvIR F ks wi RI) (I : List D → Nat → List Kd → Prop) (h0 : ∀ items, RI items → I items 0 ks)
    (hs : ∀ items i d ks', RI items → items[i]? = some d → I items i ks' → ∀ B G, Sub F B G → ∃ ks'', GB { F with B := B, G := G } g ks' d ks'' ∧
      Run { F with B := B, G := G } ks'' tb { E with nx := Nx { F with B := B, G := G } (I items (i + 1)), ct := Nx { F with B := B, G := G } (I items (i + 1)), bk := E.nx })
    (hd : ∀ items ks', RI items → I items items.length ks' → Cont F ks' E.nx) : Run F ks (tFor wi g tb) E := fun M σ H o => by
  refine hi M σ H o _ fun J S items H1 o1 s1 r1 it s0 => ?_
  obtain ⟨w, o2⟩ := o1.tight
  refine ⟨fun i m σ' H' => m = items.length - i ∧ i ≤ items.length ∧ Nx { F with B := solid ks σ H1, G := hid M H1 } (I items i) σ' H', ⟨items.length, rfl, Nat.zero_le _, ks, M, h0 items r1, o2⟩, ?_⟩
  rintro i m σ' H' ⟨rfl, hle, ks', M', hI, o'⟩
  have hS : S (hid M' H') := it.mono _ _ o'.vis s0
  by_cases hlt : i < items.length
  · refine .inr ⟨it.go M' H' i hS hlt, Nx { F with B := solid ks σ H1, G := hid M H1 } (I items (i + 1)), fun σ2 H2 n => ⟨items.length - (i + 1), by omega, rfl, hlt, n⟩, fun x H2 y => ?_⟩
    have e : items[i]? = some items[i] := List.getElem?_eq_getElem hlt
    obtain ⟨sm, a⟩ := it.yld M' H' i x H2 _ o'.live hS e y
    obtain ⟨ks'', hg, hr⟩ := hs items i _ ks' r1 e hI _ _ w
    exact hg M' σ' H2 x (o'.same sm) a _ fun σ2 o3 => hr M' σ2 H2 o3
  · have e : i = items.length := by omega
    subst e
    exact .inl ⟨it.stop M' H' hS, hd items ks' r1 hI M' σ' H' (o'.lift w)⟩
/-- deterministic: the context at each turn -/
theorem run_for {wi : TI} {g : TG} {tb : TS} {items : List D} (hi : EvI F ks wi items) (K : Nat → List Kd) (h0 : KsLe ks (K 0))
    (hs : ∀ i d, items[i]? = some d → ∀ B G, Sub F B G → ∃ ks'', GB { F with B := B, G := G } g (K i) d ks'' ∧
      Run { F with B := B, G := G } ks'' tb { E with nx := Nx { F with B := B, G := G } (fun x => x = K (i + 1)), ct := Nx { F with B := B, G := G } (fun x => x = K (i + 1)), bk := E.nx })
    (hd : Cont F (K items.length) E.nx) : Run F ks (tFor wi g tb) E := by
  have hi' : EvIR F (K 0) wi (fun x => x = items) → Run F (K 0) (tFor wi g tb) E := fun hi => run_forR hi (fun _ i x => x = K i) (fun _ _ => rfl) (fun it i d ks' e h q B G w => by
    subst e; subst q
    exact hs i d h B G w) fun it ks' e q => by
      subst e; subst q
      exact hd
  intro M σ H o
  refine hi M σ H o _ fun J S its H1 o1 s1 r1 it s0 => ?_
  have o1' := o1.weak h0
  subst r1
  obtain ⟨w, o2⟩ := o1'.tight
  refine ⟨fun i m σ' H' => m = its.length - i ∧ i ≤ its.length ∧ Nx { F with B := solid (K 0) σ H1, G := hid M H1 } (fun x => x = K i) σ' H', ⟨its.length, rfl, Nat.zero_le _, K 0, M, rfl, o2⟩, ?_⟩
  rintro i m σ' H' ⟨rfl, hle, ks', M', hI, o'⟩
  subst hI
  have hS : S (hid M' H') := it.mono _ _ o'.vis s0
  by_cases hlt : i < its.length
  · refine .inr ⟨it.go M' H' i hS hlt, Nx { F with B := solid (K 0) σ H1, G := hid M H1 } (fun x => x = K (i + 1)), fun σ2 H2 n => ⟨its.length - (i + 1), by omega, rfl, hlt, n⟩, fun x H2 y => ?_⟩
    have e : its[i]? = some its[i] := List.getElem?_eq_getElem hlt
    obtain ⟨sm, a⟩ := it.yld M' H' i x H2 _ o'.live hS e y
    obtain ⟨ks'', hg, hr⟩ := hs i _ e _ _ w
    exact hg M' σ' H2 x (o'.same sm) a _ fun σ2 o3 => hr M' σ2 H2 o3
  · have e : i = its.length := by omega
    subst e
    exact .inl ⟨it.stop M' H' hS, hd M' σ' H' (o'.lift w)⟩
/-- while -/
theorem run_while {c : TT} {tb : TS} (I : Nat → List Kd → Prop) (n0 : Nat) (h0 : I n0 ks) (b : List Kd → Bool) (ht : ∀ n ks', I n ks' → EvT F ks' c (b ks'))
    (hs : ∀ n ks', I n ks' → b ks' = true → Run F ks' tb { E with nx := Nx F (fun k => ∃ m, m < n ∧ I m k), ct := Nx F (fun k => ∃ m, m < n ∧ I m k), bk := E.nx })
    (hd : ∀ n ks', I n ks' → b ks' = false → Cont F ks' E.nx) : Run F ks (tWhile c tb) E := fun M σ H o => by
  refine ⟨fun m σ' H' => Nx F (I m) σ' H', ⟨n0, ks, M, h0, o⟩, ?_⟩
  rintro m σ' H' ⟨ks', M', hI, o'⟩
  refine ht m ks' hI M' σ' H' o' _ fun c H2 o2 s2 e => ?_
  subst e
  cases e : b ks' with
  | true =>
    refine ⟨Nx F (fun k => ∃ j, j < m ∧ I j k), fun σ3 H3 ⟨k3, M3, ⟨j, hj, hI3⟩, o3⟩ => ⟨j, hj, k3, M3, hI3, o3⟩, ?_⟩
    exact hs m ks' hI e M' σ' H2 o2
  | false => exact hd m ks' hI e M' σ' H2 o2
end
end Dl
set_option Elab.async false
set_option linter.all false
set_option maxRecDepth 100000
set_option maxHeartbeats 4000000
/-! Dl4: comprehensions, slices. -/
namespace Dl
open PySem PySem.Spec PyProof.Rows L2
section
variable {F : Fm} {ks : List Kd} {M : List Addr} {σ : Sg} {H H' : Hp}
/-- a block's own names are bound: the lists that may change stay those they were -/
def Rel (ks : List Kd) (σ : Sg) (ks'' : List Kd) (σ' : Sg) : Prop := ∀ (j : Nat) (k : Kd), ks''[j]? = some k → isT k = true → ks[j]? = some k ∧ σ'[j]? = σ[j]?
def GW (F : Fm) (g : TG) (vs : List Nat) (ks : List Kd) (d : D) (ks'' : List Kd) : Prop := ∀ M σ H v, Ok F ks M σ H → At F.K (hid M H) v d → ∀ Q : Sg → Hp → Prop, (∀ σ', Ok F ks'' M σ' H → wipe σ' vs = wipe σ vs → Rel ks σ ks'' σ' → Q σ' H) → g v (wipe σ vs) H Q
theorem Rel.own {ks'' : List Kd} {σ' : Sg} (r : Rel ks σ ks'' σ') {a : Addr} (h : OwnA ks'' σ' a) : OwnA ks σ a := by
  obtain ⟨i, k, h1, h2, h3⟩ := h
  obtain ⟨g1, g2⟩ := r i k h1 (isT_of h2)
  exact ⟨i, k, g1, h2, by rw [← g2]; exact h3⟩
theorem Rel.nst {ks'' : List Kd} {σ' : Sg} (r : Rel ks σ ks'' σ') {a : Addr} {H : Hp} (h : NstA ks'' σ' H a) : NstA ks σ H a := by
  obtain ⟨i, φ, p, qs, h1, h2, h3, h4⟩ := h
  obtain ⟨g1, g2⟩ := r i _ h1 rfl
  exact ⟨i, φ, p, qs, g1, by rw [← g2]; exact h2, h3, h4⟩
theorem Rel.trans {ks1 ks2 : List Kd} {σ1 σ2 : Sg} (a : Rel ks σ ks1 σ1) (b : Rel ks1 σ1 ks2 σ2) : Rel ks σ ks2 σ2 := fun j k h1 h2 => by
  obtain ⟨g1, g2⟩ := b j k h1 h2
  obtain ⟨g3, g4⟩ := a j k g1 h2
  exact ⟨g3, g2.trans g4⟩
theorem Ok.back {ks'' : List Kd} {σ' : Sg} (o : Ok F ks M σ H) (o2 : Ok F ks'' M σ' H') (st : Step ks'' σ' H H') (r : Rel ks σ ks'' σ') : Ok F ks M σ H' := by
  have ow : ∀ a, OwnA ks'' σ' a → a ∈ M := fun a h => o.ownM (r.own h)
  have hs : Same (hid M H) (hid M H') := fun a u h => by
    obtain ⟨h1, h2⟩ := hid_some h
    rw [hid_out h1]
    exact st a u h2 fun z => h1 (ow a z)
  have has : ∀ (i : Nat) (k : Kd) (p : Addr), ks[i]? = some k → isM k = true → Has F M H σ[i]? p (wishK k) → Has F M H' σ[i]? p (wishK k) := fun i k p e m h => by
    by_cases q : OwnA ks'' σ' p
    · obtain ⟨j, k', e2, m2, s2⟩ := q
      obtain ⟨g1, g2⟩ := r j k' e2 (isT_of m2)
      have ij : i = j := o.inj i j k k' p e g1 m m2 h.1 (by rw [← g2]; exact s2)
      subst ij
      rw [e] at g1
      cases g1
      obtain ⟨p2, hp⟩ := o2.wish e2 m2
      have ep : p2 = p := by
        have := hp.1
        rw [s2] at this
        cases this
        rfl
      subst ep
      exact hp.at g2.symm
    · obtain ⟨h1, h2, h3, vs, ds, h4, h5, h6⟩ := h
      exact ⟨h1, h2, h3, vs, ds, st _ _ h4 q, h5.mono hs, h6⟩
  have hN : ∀ (i : Nat) (χ : List (List D) → Prop), ks[i]? = some (.nst χ) → ∃ p qs, Nes F M H' σ[i]? p qs χ ∧ ∀ a ∈ p :: qs, ¬ OwnA ks σ a := fun i χ e => by
    obtain ⟨p, qs, h1, h2⟩ := o.nst i χ e
    exact ⟨p, qs, h1.to rfl rfl h1.mem (fun a ha u g => st a u g fun z => h2 a ha (r.own z)) hs (fun _ r => r), h2⟩
  refine ⟨o.len, fun i d e => ?_, fun i φ e => ?_, fun i φ e => ?_, o.inj, hN, o.one, o2.base, o.vis.trans hs, o.sup, o2.live⟩
  · obtain ⟨v, h1, h2⟩ := o.dat i d e
    exact ⟨v, h1, h2.mono hs⟩
  · obtain ⟨p, h1, h2⟩ := o.own i φ e
    exact ⟨p, h1, has i (.own φ) p e rfl h2⟩
  · obtain ⟨p, h1, h2⟩ := o.bor i φ e
    exact ⟨p, h1, has i (.bor φ) p e rfl h2⟩
theorem gw_name {i : Nat} {d : D} : GW F (gName i) [i] ks d (ks.set i (.dat d)) := fun M σ H v o a Q q => by
  show Q ((σ.set i none).set i (some v)) H
  rw [List.set_set]
  refine q _ (o.setD a) ?_ fun j k h1 h2 => ?_
  · show (σ.set i (some v)).set i none = σ.set i none
    rw [List.set_set]
  · rcases getK h1 with ⟨rfl, l, z⟩ | ⟨n, z⟩
    · rw [← z] at h2; cases h2
    · exact ⟨z, List.getElem?_set_ne n⟩
theorem set4 {α : Type} (l : List α) (i j : Nat) (a b c : α) : (((((l.set j a).set i a).set i b).set j c).set j a).set i a = (l.set j a).set i a := by
  apply List.ext_getElem?
  intro k
  simp only [List.getElem?_set, List.length_set]
  by_cases e1 : i = k
  · by_cases e2 : j = k
    · simp [e1, e2]
    · simp [e1]
  · by_cases e2 : j = k
    · simp [e1, e2]
    · simp [e1, e2]
theorem gw_tup2 {i j : Nat} {a b : D} : GW F (gTup F.K 2 (gCons (gName i) (gCons (gName j) gNil))) [i, j] ks (.tup [a, b]) ((((ks.set j .any).set i .any).set i (.dat a)).set j (.dat b)) := fun M σ H v o h Q q => by
  cases h with
  | tup hs hd =>
    cases hd with
    | cons h1 hd =>
      cases hd with
      | cons h2 hd =>
        cases hd
        rename_i v1 v2
        refine ⟨_, _, rfl, same_t hid_same hs, rfl, _, _, rfl, _, _, rfl, rfl, ?_⟩
        show Q ((((σ.set j none).set i none).set i (some v1)).set j (some v2)) H
        refine q _ ((((o.setA (i := j) (v := none)).setA (i := i) (v := none)).setD h1).setD h2) ?_ fun m k g1 g2 => ?_
        · show (((((σ.set j none).set i none).set i (some v1)).set j (some v2)).set j none).set i none = (σ.set j none).set i none
          exact set4 σ i j none (some v1) (some v2)
        · rcases getK g1 with ⟨rfl, l, z⟩ | ⟨n, z⟩
          · rw [← z] at g2; cases g2
          · rcases getK z with ⟨rfl, l, z⟩ | ⟨n2, z⟩
            · rw [← z] at g2; cases g2
            · rcases getK z with ⟨e, l, z⟩ | ⟨n3, z⟩
              · exact absurd e n2
              · rcases getK z with ⟨e, l, z⟩ | ⟨n4, z⟩
                · exact absurd e n
                · exact ⟨z, by rw [List.getElem?_set_ne n, List.getElem?_set_ne n2, List.getElem?_set_ne n2, List.getElem?_set_ne n]⟩
theorem et_yes : EvT F ks tYes true := fun M σ H o Q q => q true H o .refl rfl
/-- the list that a comprehension fills, at turn i -/
structure Fill (F : Fm) (ks : List Kd) (M : List Addr) (σ : Sg) (H1 : Hp) (p : Addr) (P : List D → Prop) (H : Hp) : Prop where
  ok : Ok F ks (p :: M) σ H
  st : Step ks σ H1 H
  vis : Same (hid M H1) (hid (p :: M) H)
  acc : ∃ vs ds, H p = some (.lst vs) ∧ Ats F.K (hid (p :: M) H) vs ds ∧ P ds
theorem Fill.start {p : Addr} {P : List D → Prop} (o : Ok F ks M σ H) (n : H p = none) (h : P []) : Fill F ks M σ H p P (upd H p (.lst [])) :=
  ⟨o.hide n, .of (same_new n), by rw [hid_new n]; exact Same.refl _, [], [], upd_same, .nil, h⟩
theorem Fill.done {p : Addr} {P : List D → Prop} {H1 : Hp} (f : Fill F ks M σ H1 p P H) {Q : VK} (q : ∀ vs ds, Ok F ks (p :: M) σ H → Step ks σ H1 H → H p = some (.lst vs) → Ats F.K (hid (p :: M) H) vs ds → P ds → Q (.ref p) H) : Q (.ref p) H := by
  obtain ⟨vs, ds, h1, h2, h3⟩ := f.acc
  exact q vs ds f.ok f.st h1 h2 h3
/-- the turn's work under the block's names leaves the list alone -/
theorem Fill.after {p : Addr} {P : List D → Prop} {H1 H2 H3 : Hp} {ks'' : List Kd} {σ' : Sg} (nO : ¬ OwnA ks σ p) (f : Fill F ks M σ H1 p P H) (s0 : Same H H2) (r : Rel ks σ ks'' σ') (o3 : Ok F ks'' (p :: M) σ' H3) (st : Step ks'' σ' H2 H3) : Fill F ks M σ H1 p P H3 := by
  obtain ⟨vs, ds, h1, h2, h3⟩ := f.acc
  have st0 : Step ks'' σ' H H3 := (Step.of s0).trans st
  have np : ¬ OwnA ks'' σ' p := fun z => nO (r.own z)
  have hs : Same (hid (p :: M) H) (hid (p :: M) H3) := fun b u h => by
    obtain ⟨g1, g2⟩ := hid_some h
    rw [hid_out g1]
    exact st0 b u g2 fun z => g1 (f.ok.ownM (r.own z))
  exact ⟨f.ok.back o3 st0 r, fun b u h n => st0 b u (f.st b u h n) fun z => n (r.own z), f.vis.trans hs, vs, ds, st0 _ _ h1 np, h2.mono hs, h3⟩
theorem Fill.push {p : Addr} {P : List D → Prop} {H1 : Hp} {y : V} {e : D} (o1 : Ok F ks M σ H1) (nO : ¬ OwnA ks σ p) (nB : F.B p = none) (n1 : H1 p = none) (f : Fill F ks M σ H1 p P H) (a : At F.K (hid (p :: M) H) y e)
    {P' : List D → Prop} (hP : ∀ ds, P ds → ds.length < sizeLine ∧ P' (ds ++ [e])) : ∃ acc, H p = some (.lst acc) ∧ acc.length < sizeLine ∧ Fill F ks M σ H1 p P' (upd H p (.lst (acc ++ [y]))) := by
  obtain ⟨vs, ds, h1, h2, h3⟩ := f.acc
  refine ⟨vs, h1, by rw [h2.length]; exact (hP ds h3).1, f.ok.put List.mem_cons_self nB nO (o1.nstFresh f.st n1), fun b u h n => ?_, ?_, vs ++ [y], ds ++ [e], upd_same, ?_, (hP ds h3).2⟩
  · rw [upd_ne (ne_of_none h n1)]
    exact f.st b u h n
  · rw [hid_upd List.mem_cons_self]
    exact f.vis
  · rw [hid_upd List.mem_cons_self]
    exact h2.append (.cons a .nil)
theorem Fill.imp {p : Addr} {P P' : List D → Prop} {H1 : Hp} (f : Fill F ks M σ H1 p P H) (i : ∀ ds, P ds → P' ds) : Fill F ks M σ H1 p P' H := by
  obtain ⟨vs, ds, h1, h2, h3⟩ := f.acc
  exact ⟨f.ok, f.st, f.vis, vs, ds, h1, h2, i _ h3⟩
/-- [e for x in xs if t] -/
theorem el_lcR {wi : TI} {g : TG} {tt : TT} {te : TE} {vs : List Nat} {RI : List D → Prop} (hi : EvIR F ks wi RI) (P : List D → Nat → List D → Prop) (h0 : ∀ items, RI items → P items 0 [])
    (hs : ∀ items i d, RI items → items[i]? = some d → ∃ ks'', GW F g vs ks d ks'' ∧ ∃ Rb : Bool → Prop, EvTR F ks'' tt Rb ∧ (Rb false → ∀ acc, P items i acc → P items (i + 1) acc) ∧
      (Rb true → ∃ R, EvR F ks'' te R ∧ ∀ acc e, P items i acc → R e → acc.length < sizeLine ∧ P items (i + 1) (acc ++ [e]))) :
    EvLR F ks (tLc wi g tt te vs) (fun ds => ∃ items, RI items ∧ P items items.length ds) := fun M σ H o Q q => by
  refine hi M σ H o _ fun J S items H1 o1 s1 r1 it sS p n => ?_
  have nO := o1.noOwn n
  have nB := o1.baseNone n
  refine ⟨fun i m H' => m = items.length - i ∧ i ≤ items.length ∧ Fill F ks M σ H1 p (P items i) H', ⟨items.length, rfl, Nat.zero_le _, Fill.start o1 n (h0 items r1)⟩, ?_⟩
  rintro i m H' ⟨rfl, hle, f⟩
  have hS : S (hid (p :: M) H') := it.mono _ _ f.vis sS
  by_cases hlt : i < items.length
  · refine .inr ⟨it.go (p :: M) H' i hS hlt, fun H'' => Fill F ks M σ H1 p (P items (i + 1)) H'', fun H2 n => ⟨items.length - (i + 1), by omega, rfl, hlt, n⟩, fun x H2 y => ?_⟩
    have e : items[i]? = some items[i] := List.getElem?_eq_getElem hlt
    obtain ⟨sm, a⟩ := it.yld (p :: M) H' i x H2 _ f.ok.live hS e y
    obtain ⟨ks'', hg, Rb, ht, hf, hT⟩ := hs items i _ r1 e
    refine hg (p :: M) σ H2 x (f.ok.same sm) a _ fun σ' o3 w r => ⟨w, ?_⟩
    refine ht (p :: M) σ' H2 o3 _ fun b H3 o4 s4 rb => ?_
    cases b with
    | false =>
      rw [if_neg Bool.false_ne_true]
      exact (f.after nO sm r o4 s4).imp (hf rb)
    | true =>
      rw [if_pos rfl]
      obtain ⟨R, he, hR⟩ := hT rb
      refine he (p :: M) σ' H3 o4 _ fun z d H4 o5 s5 a5 r5 => ?_
      exact (f.after nO sm r o5 (s4.trans s5)).push o1 nO nB n a5 fun ds h => hR ds d h r5
  · have e : i = items.length := by omega
    subst e
    refine .inl ⟨it.stop (p :: M) H' hS, f.done fun vs ds o2 s2 l2 a2 h2 => ?_⟩
    exact q p vs ds H' (by
      cases e : H p with
      | none => rfl
      | some u =>
        rw [s1 _ _ e nO] at n
        cases n) o2 (s1.trans s2) l2 a2 ⟨items, r1, h2⟩
theorem paired_append {α β : Type} {R : α → β → Prop} : ∀ {as cs : List α} {bs ds : List β}, Paired R as bs → Paired R cs ds → Paired R (as ++ cs) (bs ++ ds)
  | _, _, _, _, .nil, h => h
  | _, _, _, _, .cons a b, h => .cons a (paired_append b h)
/-- one by one, each item as told -/
theorem el_mapR {α : Type} {wi : TI} {g : TG} {te : TE} {vs : List Nat} {xs : List α} {enc : α → D} {R : α → D → Prop} (hi : EvI F ks wi (xs.map enc)) (hz : xs.length ≤ sizeLine)
    (hs : ∀ x ∈ xs, ∃ ks'', GW F g vs ks (enc x) ks'' ∧ EvR F ks'' te (R x)) : EvLR F ks (tLc wi g tYes te vs) (fun ds => Paired R xs ds) :=
  (el_lcR hi (fun _ i acc => Paired R (xs.take i) acc) (fun _ _ => by rw [List.take_zero]; exact .nil) fun items i d e h => by
    subst e
    rw [List.getElem?_map] at h
    cases e2 : xs[i]? with
    | none => rw [e2] at h; cases h
    | some x =>
      rw [e2] at h
      cases h
      obtain ⟨ks'', hg, he⟩ := hs x (List.mem_of_getElem? e2)
      refine ⟨ks'', hg, fun b => b = true, et_yes, (fun z => nomatch z), fun _ => ⟨R x, he, fun acc e h r => ⟨?_, ?_⟩⟩⟩
      · have l1 : acc.length = (xs.take i).length := (Paired.length h).symm
        have l2 := (List.getElem?_eq_some_iff.mp e2).1
        rw [l1, List.length_take]
        omega
      · rw [List.take_add_one, e2]
        exact paired_append h (.cons r .nil)).imp fun ds ⟨items, e, h⟩ => by
    subst e
    rw [List.length_map, List.take_length] at h
    exact h
/-- [f x for x in xs if b x] -/
theorem el_filt {α : Type} {wi : TI} {g : TG} {tt : TT} {te : TE} {vs : List Nat} {xs : List α} {enc : α → D} {b : α → Bool} {f : α → D} (hi : EvI F ks wi (xs.map enc)) (hz : xs.length ≤ sizeLine)
    (hs : ∀ x ∈ xs, ∃ ks'', GW F g vs ks (enc x) ks'' ∧ EvT F ks'' tt (b x) ∧ (b x = true → Ev F ks'' te (f x))) : EvL F ks (tLc wi g tt te vs) ((xs.filter b).map f) :=
  (el_lcR hi (fun _ i acc => acc = ((xs.take i).filter b).map f) (fun _ _ => by rw [List.take_zero]; rfl) fun items i d e h => by
    subst e
    rw [List.getElem?_map] at h
    cases e2 : xs[i]? with
    | none => rw [e2] at h; cases h
    | some x =>
      rw [e2] at h
      cases h
      obtain ⟨ks'', hg, ht, he⟩ := hs x (List.mem_of_getElem? e2)
      refine ⟨ks'', hg, _, ht, fun e acc h => ?_, fun e => ⟨_, he e.symm, fun acc d h r => ⟨?_, ?_⟩⟩⟩
      · rw [h, List.take_add_one, e2, List.filter_append]
        simp [← e]
      · have l2 := (List.getElem?_eq_some_iff.mp e2).1
        rw [h, List.length_map]
        have := List.length_filter_le b (xs.take i)
        rw [List.length_take] at this
        omega
      · rw [h, r, List.take_add_one, e2, List.filter_append]
        simp [← e]).imp fun ds ⟨items, e, h⟩ => by
    subst e
    rw [List.length_map, List.take_length] at h
    exact h
theorem el_map {α : Type} {wi : TI} {g : TG} {te : TE} {vs : List Nat} {xs : List α} {enc : α → D} {f : α → D} (hi : EvI F ks wi (xs.map enc)) (hz : xs.length ≤ sizeLine)
    (hs : ∀ x ∈ xs, ∃ ks'', GW F g vs ks (enc x) ks'' ∧ Ev F ks'' te (f x)) : EvL F ks (tLc wi g tYes te vs) (xs.map f) :=
  (el_filt (b := fun _ => true) hi hz fun x hx => by
    obtain ⟨ks'', h1, h2⟩ := hs x hx
    exact ⟨ks'', h1, et_yes, fun _ => h2⟩).to (by rw [List.filter_eq_self.mpr fun _ _ => rfl])
/-- [f x y for x in xs for y in ys x if b x y] -/
theorem el_lc2 {α β : Type} {wi wi1 : TI} {g g1 : TG} {tt1 : TT} {te : TE} {vs vs1 : List Nat} {xs : List α} {enc : α → D} {ys : α → List β} {enc1 : α → β → D} {b : α → β → Bool} {f : α → β → D} (hi : EvI F ks wi (xs.map enc))
    (hz : (xs.flatMap fun x => ((ys x).filter (b x)).map (f x)).length ≤ sizeLine)
    (hs : ∀ x ∈ xs, ∃ ks'', GW F g vs ks (enc x) ks'' ∧ EvI F ks'' wi1 ((ys x).map (enc1 x)) ∧ ∀ y ∈ ys x, ∃ ks3, GW F g1 vs1 ks'' (enc1 x y) ks3 ∧ EvT F ks3 tt1 (b x y) ∧ (b x y = true → Ev F ks3 te (f x y))) :
    EvL F ks (tLc2 wi g tYes wi1 g1 tt1 te vs vs1) (xs.flatMap fun x => ((ys x).filter (b x)).map (f x)) := fun M σ H o Q q => by
  refine hi M σ H o _ fun J S items H1 o1 s1 r1 it sS p n => ?_
  subst r1
  have nO := o1.noOwn n
  have nB := o1.baseNone n
  have hpre : ∀ i, i < xs.length → ∀ x, xs[i]? = some x → ∀ j, (((xs.take i).flatMap fun x => ((ys x).filter (b x)).map (f x)) ++ (((ys x).take j).filter (b x)).map (f x)).length ≤ sizeLine := fun i hi x hx j => by
    refine Nat.le_trans ?_ hz
    have e : xs = xs.take i ++ x :: xs.drop (i + 1) := by
      have ex : xs[i] = x := by
        rw [List.getElem?_eq_getElem hi] at hx
        exact Option.some.inj hx
      rw [← ex, List.getElem_cons_drop]
      exact (List.take_append_drop i xs).symm
    conv => rhs; rw [e]
    rw [List.flatMap_append, List.flatMap_cons, List.length_append, List.length_append, List.length_append]
    have h1 : ((((ys x).take j).filter (b x)).map (f x)).length ≤ (((ys x).filter (b x)).map (f x)).length := by
      rw [List.length_map, List.length_map]
      exact ((List.take_sublist j (ys x)).filter _).length_le
    omega
  refine ⟨fun i m H' => m = (xs.map enc).length - i ∧ i ≤ (xs.map enc).length ∧ Fill F ks M σ H1 p (fun ds => ds = (xs.take i).flatMap fun x => ((ys x).filter (b x)).map (f x)) H', ⟨(xs.map enc).length, rfl, Nat.zero_le _, Fill.start o1 n (by rw [List.take_zero]; rfl)⟩, ?_⟩
  rintro i m H' ⟨rfl, hle, f0⟩
  have hS : S (hid (p :: M) H') := it.mono _ _ f0.vis sS
  by_cases hlt : i < (xs.map enc).length
  · refine .inr ⟨it.go (p :: M) H' i hS hlt, fun H'' => Fill F ks M σ H1 p (fun ds => ds = (xs.take (i + 1)).flatMap fun x => ((ys x).filter (b x)).map (f x)) H'', fun H2 n => ⟨(xs.map enc).length - (i + 1), by omega, rfl, hlt, n⟩, fun u H2 y => ?_⟩
    have hl : i < xs.length := by rw [List.length_map] at hlt; exact hlt
    have ex : xs[i]? = some xs[i] := List.getElem?_eq_getElem hl
    have e : (xs.map enc)[i]? = some (enc xs[i]) := by rw [List.getElem?_map, ex]; rfl
    obtain ⟨sm, a⟩ := it.yld (p :: M) H' i u H2 _ f0.ok.live hS e y
    obtain ⟨ks'', hg, hI, hs2⟩ := hs xs[i] (List.getElem_mem hl)
    refine hg (p :: M) σ H2 u (f0.ok.same sm) a _ fun σ' o3 w r => ⟨w, ?_⟩
    refine et_yes (p :: M) σ' H2 o3 _ fun c0 H30 o30 s30 ec0 => ?_
    subst ec0
    rw [if_pos rfl]
    refine hI (p :: M) σ' H30 o30 _ fun J1 S1 it1 H4 o4 s4' r4 ok1 sS1 => ?_
    have s4 : Step ks'' σ' H2 H4 := s30.trans s4'
    subst r4
    refine ⟨fun j m H'' => m = ((ys xs[i]).map (enc1 xs[i])).length - j ∧ j ≤ ((ys xs[i]).map (enc1 xs[i])).length ∧ Ok F ks'' (p :: M) σ' H'' ∧ Same (hid (p :: M) H4) (hid (p :: M) H'') ∧
      Fill F ks M σ H1 p (fun ds => ds = ((xs.take i).flatMap fun x => ((ys x).filter (b x)).map (f x)) ++ (((ys xs[i]).take j).filter (b xs[i])).map (f xs[i])) H'', ⟨_, rfl, Nat.zero_le _, o4, Same.refl _, (f0.after nO sm r o4 s4).imp fun ds h => by rw [h, List.take_zero]; simp⟩, ?_⟩
    rintro j m H5 ⟨rfl, hle1, o5, s5, f5⟩
    have hS1 : S1 (hid (p :: M) H5) := ok1.mono _ _ s5 sS1
    by_cases hlt1 : j < ((ys xs[i]).map (enc1 xs[i])).length
    · refine .inr ⟨ok1.go (p :: M) H5 j hS1 hlt1, fun H'' => Ok F ks'' (p :: M) σ' H'' ∧ Same (hid (p :: M) H4) (hid (p :: M) H'') ∧ Fill F ks M σ H1 p (fun ds => ds = ((xs.take i).flatMap fun x => ((ys x).filter (b x)).map (f x)) ++ (((ys xs[i]).take (j + 1)).filter (b xs[i])).map (f xs[i])) H'',
        fun H6 n => ⟨((ys xs[i]).map (enc1 xs[i])).length - (j + 1), by omega, rfl, hlt1, n⟩, fun u6 H6 y6 => ?_⟩
      have hl1 : j < (ys xs[i]).length := by rw [List.length_map] at hlt1; exact hlt1
      have ey : (ys xs[i])[j]? = some (ys xs[i])[j] := List.getElem?_eq_getElem hl1
      have e6 : ((ys xs[i]).map (enc1 xs[i]))[j]? = some (enc1 xs[i] (ys xs[i])[j]) := by rw [List.getElem?_map, ey]; rfl
      obtain ⟨sm6, a6⟩ := ok1.yld (p :: M) H5 j u6 H6 _ o5.live hS1 e6 y6
      obtain ⟨ks3, hg3, ht3, he3⟩ := hs2 (ys xs[i])[j] (List.getElem_mem hl1)
      have tk : (ys xs[i]).take (j + 1) = (ys xs[i]).take j ++ [(ys xs[i])[j]] := by rw [List.take_add_one, ey]; rfl
      refine hg3 (p :: M) σ' H6 u6 (o5.same sm6) a6 _ fun σ3 o7 w7 r7 => ⟨w7, ?_⟩
      refine ht3 (p :: M) σ3 H6 o7 _ fun c H7 o8 s8 ec => ?_
      have r3 := r.trans r7
      have nO'' : ¬ OwnA ks'' σ' p := fun z => nO (r.own z)
      cases c with
      | false =>
        rw [if_neg Bool.false_ne_true]
        refine ⟨o5.back o8 ((Step.of sm6).trans s8) r7, (s5.trans (hid_mono sm6)).trans (o7.hidStep s8), (f5.after nO sm6 r3 o8 s8).imp fun ds h => ?_⟩
        rw [h, tk, List.filter_append]
        simp [← ec]
      | true =>
        rw [if_pos rfl]
        refine he3 ec.symm (p :: M) σ3 H7 o8 _ fun z d H8 o9 s9 a9 r9 => ?_
        subst r9
        have f8 := f5.after nO sm6 r3 o9 (s8.trans s9)
        obtain ⟨acc, g1, g2, g3⟩ := f8.push o1 nO nB n a9 (P' := fun ds => ds = ((xs.take i).flatMap fun x => ((ys x).filter (b x)).map (f x)) ++ (((ys xs[i]).take (j + 1)).filter (b xs[i])).map (f xs[i])) fun ds h => by
          have e9 : ((xs.take i).flatMap fun x => ((ys x).filter (b x)).map (f x)) ++ (((ys xs[i]).take (j + 1)).filter (b xs[i])).map (f xs[i]) = ds ++ [f xs[i] (ys xs[i])[j]] := by
            rw [h, tk, List.filter_append]
            simp [← ec]
          refine ⟨?_, e9.symm⟩
          have := hpre i hl xs[i] ex (j + 1)
          rw [e9, List.length_append] at this
          simp at this
          omega
        refine ⟨acc, g1, g2, ?_, ?_, g3⟩
        · have ob := o5.back o9 ((Step.of sm6).trans (s8.trans s9)) r7
          exact ob.put List.mem_cons_self nB nO'' fun z => o1.nstFresh f8.st n (r.nst z)
        · rw [hid_upd List.mem_cons_self]
          exact (s5.trans (hid_mono sm6)).trans (o7.hidStep (s8.trans s9))
    · have e : j = ((ys xs[i]).map (enc1 xs[i])).length := by omega
      subst e
      refine .inl ⟨ok1.stop (p :: M) H5 hS1, f5.imp fun ds h => ?_⟩
      rw [h, List.length_map, List.take_length, List.take_add_one, ex, List.flatMap_append]
      simp
  · have e : i = (xs.map enc).length := by omega
    subst e
    refine .inl ⟨it.stop (p :: M) H' hS, f0.done fun vs ds o2 s2 l2 a2 h2 => ?_⟩
    rw [List.length_map, List.take_length] at h2
    exact q p vs ds H' (by
      cases e : H p with
      | none => rfl
      | some u =>
        rw [s1 _ _ e nO] at n
        cases n) o2 (s1.trans s2) l2 a2 h2
end
end Dl
set_option Elab.async false
set_option linter.all false
set_option maxRecDepth 100000
set_option maxHeartbeats 4000000
/-! Dl5: slices, equality, in, isinstance, promises and calls. -/
namespace Dl
open PySem PySem.Spec PyProof.Rows L2
section
variable {F : Fm} {ks : List Kd} {M : List Addr} {σ : Sg} {H H' : Hp}
/-! ### slices -/
def EvO (F : Fm) (ks : List Kd) (t : TO) (x : Option Int) : Prop := ∀ M σ H, Ok F ks M σ H → ∀ Q : Option Int → Hp → Prop, (∀ H', Ok F ks M σ H' → Step ks σ H H' → Q x H') → t σ H Q
theorem eo_none : EvO F ks tNoPart none := fun M σ H o Q q => q H o .refl
theorem eo_some {te : TE} {i : Int} (h : Ev F ks te (.int i)) : EvO F ks (tPart te) (some i) := fun M σ H o Q q => h M σ H o _ fun v d H1 o1 s1 a1 e => by
  subst e
  cases a1
  exact ⟨i, rfl, q H1 o1 s1⟩
def cutG {α : Type} (xs : List α) (lo hi : Option Int) : List α := (xs.drop (HT.sIx xs.length 0 lo)).take (HT.sIx xs.length xs.length hi - HT.sIx xs.length 0 lo)
theorem Ats.cut {K : PySem.W.Frag} {H : Hp} {vs : List V} {ds : List D} {lo hi : Option Int} (h : Ats K H vs ds) : Ats K H (cutV vs lo hi) (cutG ds lo hi) := by
  unfold cutV cutG
  rw [h.length]
  exact (h.drop _).take _
theorem el_slL {te : TE} {tl th : TO} {ds : List D} {lo hi : Option Int} (h : Ev F ks te (.lst ds)) (h1 : EvO F ks tl lo) (h2 : EvO F ks th hi) : EvL F ks (tSl (rSlL F.K) te tl th) (cutG ds lo hi) := fun M σ H o Q q =>
  h M σ H o _ fun v d H1 o1 s1 a1 e => h1 M σ H1 o1 _ fun H2 o2 s2 => h2 M σ H2 o2 _ fun H3 o3 s3 => by
    subst e
    have a3 := (a1.mono (o1.hidStep s2)).mono (o2.hidStep s3)
    cases a3 with
    | lst hl hs =>
      refine ⟨_, _, rfl, .inl (.inl (hid_same _ _ hl)), fun p n => ?_⟩
      obtain ⟨o4, s4, l4, a4⟩ := lst_new o3 (Ats.cut (lo := lo) (hi := hi) hs) n
      refine q _ _ _ _ ?_ o4 (((s1.trans s2).trans s3).trans s4) l4 a4 rfl
      cases e : H p with
      | none => rfl
      | some u =>
        rw [((s1.trans s2).trans s3) _ _ e (o3.noOwn n)] at n
        cases n
theorem el_slS {te : TE} {tl th : TO} {ds : List D} {lo hi : Option Int} (h : Ev F ks te (.sls ds)) (h1 : EvO F ks tl lo) (h2 : EvO F ks th hi) : EvL F ks (tSl (rSlL F.K) te tl th) (cutG ds lo hi) := fun M σ H o Q q =>
  h M σ H o _ fun v d H1 o1 s1 a1 e => h1 M σ H1 o1 _ fun H2 o2 s2 => h2 M σ H2 o2 _ fun H3 o3 s3 => by
    subst e
    have a3 := (a1.mono (o1.hidStep s2)).mono (o2.hidStep s3)
    cases a3 with
    | sls hl hs =>
      refine ⟨_, _, rfl, same_l hid_same hl, fun p n => ?_⟩
      obtain ⟨o4, s4, l4, a4⟩ := lst_new o3 (Ats.cut (lo := lo) (hi := hi) hs) n
      refine q _ _ _ _ ?_ o4 (((s1.trans s2).trans s3).trans s4) l4 a4 rfl
      cases e : H p with
      | none => rfl
      | some u =>
        rw [((s1.trans s2).trans s3) _ _ e (o3.noOwn n)] at n
        cases n
theorem ev_slT {te : TE} {tl th : TO} {ds : List D} {lo hi : Option Int} (h : Ev F ks te (.tup ds)) (h1 : EvO F ks tl lo) (h2 : EvO F ks th hi) : Ev F ks (tSl (rSlA F.K) te tl th) (.tup (cutG ds lo hi)) := fun M σ H o Q q =>
  h M σ H o _ fun v d H1 o1 s1 a1 e => h1 M σ H1 o1 _ fun H2 o2 s2 => h2 M σ H2 o2 _ fun H3 o3 s3 => by
    subst e
    have a3 := (a1.mono (o1.hidStep s2)).mono (o2.hidStep s3)
    have a3' := a3
    cases a3 with
    | tup hl hs =>
      refine ⟨_, _, rfl, same_t hid_same hl, fun w => ?_, fun _ p n => ?_⟩
      · refine q _ _ H3 o3 ((s1.trans s2).trans s3) a3' ?_
        unfold cutG
        rw [hs.length] at w
        rw [w.1, w.2, List.drop_zero, Nat.sub_zero, List.take_length]
      · obtain ⟨o4, s4, a4⟩ := tup_new o3 (Ats.cut (lo := lo) (hi := hi) hs) n
        exact q _ _ _ o4 (((s1.trans s2).trans s3).trans s4) a4 rfl
/-! ### == -/
mutual
def py : D → PyData
  | .non => .none
  | .bl b => .bool b
  | .int i => .int i
  | .str x => .str x
  | .lst ds => .list (pys ds)
  | .sls ds => .list (pys ds)
  | .tup ds => .tuple (pys ds)
  | .raw _ => .none
  | .ins _ _ => .none
def pys : List D → List PyData
  | [] => []
  | d :: ds => py d :: pys ds
end
mutual
/-- plain data, the texts in order -/
def pl : D → Bool
  | .str x => PyData.strOk x
  | .lst ds => pls ds
  | .sls ds => pls ds
  | .tup ds => pls ds
  | .raw _ => false
  | .ins _ _ => false
  | _ => true
def pls : List D → Bool
  | [] => true
  | d :: ds => pl d && pls ds
end
mutual
def dep : D → Nat
  | .lst ds => deps ds + 1
  | .sls ds => deps ds + 1
  | .tup ds => deps ds + 1
  | _ => 0
def deps : List D → Nat
  | [] => 0
  | d :: ds => max (dep d) (deps ds)
end
mutual
theorem dp_of {K : PySem.W.Frag} {H : Hp} : ∀ {v : V} {d : D}, At K H v d → pl d = true → Dp K H v (py d)
  | _, _, .non, _ => by unfold py; exact .non
  | _, _, .bl b, _ => by unfold py; exact .bl b
  | _, _, .int i, _ => by unfold py; exact .int i
  | _, _, .str x, _ => by unfold py; exact .str x
  | _, _, .lst h hs, e => by
    unfold py
    unfold pl at e
    exact .lst (.inl (.inl h)) (dps_of hs e)
  | _, _, .sls h hs, e => by
    unfold py
    unfold pl at e
    exact .lst h (dps_of hs e)
  | _, _, .tup h hs, e => by
    unfold py
    unfold pl at e
    exact .tup h (dps_of hs e)
  | _, _, .raw v, e => by
    unfold pl at e
    cases e
  | _, _, .ins _ _ _, e => by
    unfold pl at e
    cases e
theorem dps_of {K : PySem.W.Frag} {H : Hp} : ∀ {vs : List V} {ds : List D}, Ats K H vs ds → pls ds = true → DpAll K H vs (pys ds)
  | _, _, .nil, _ => by unfold pys; exact .nil
  | _, _, .cons h hs, e => by
    unfold pys
    unfold pls at e
    rw [Bool.and_eq_true] at e
    exact .cons (dp_of h e.1) (dps_of hs e.2)
end
mutual
theorem can_of : ∀ d : D, pl d = true → (py d).canLay0 = true
  | .non, _ => by simp [py, PyData.canLay0]
  | .bl b, _ => by simp [py, PyData.canLay0]
  | .int i, _ => by simp [py, PyData.canLay0]
  | .str x, e => by
    unfold pl at e
    simp only [py, PyData.canLay0]
    exact e
  | .lst ds, e => by
    unfold pl at e
    simp only [py, PyData.canLay0]
    exact cans_of ds e
  | .sls ds, e => by
    unfold pl at e
    simp only [py, PyData.canLay0]
    exact cans_of ds e
  | .tup ds, e => by
    unfold pl at e
    simp only [py, PyData.canLay0]
    exact cans_of ds e
  | .raw _, _ => by simp [py, PyData.canLay0]
  | .ins _ _, _ => by simp [py, PyData.canLay0]
theorem cans_of : ∀ ds : List D, pls ds = true → PyData.canLayAll0 (pys ds) = true
  | [], _ => by simp [pys, PyData.canLayAll0]
  | d :: ds, e => by
    unfold pls at e
    rw [Bool.and_eq_true] at e
    simp only [pys, PyData.canLayAll0, can_of d e.1, cans_of ds e.2, Bool.and_self]
end
mutual
theorem dep_of : ∀ d : D, (py d).depth = dep d
  | .non => by simp [py, PyData.depth, dep]
  | .bl b => by simp [py, PyData.depth, dep]
  | .int i => by simp [py, PyData.depth, dep]
  | .str x => by simp [py, PyData.depth, dep]
  | .lst ds => by simp only [py, PyData.depth, dep, deps_of ds]
  | .sls ds => by simp only [py, PyData.depth, dep, deps_of ds]
  | .tup ds => by simp only [py, PyData.depth, dep, deps_of ds]
  | .raw _ => by simp [py, PyData.depth, dep]
  | .ins _ _ => by simp [py, PyData.depth, dep]
theorem deps_of : ∀ ds : List D, PyData.depthAll (pys ds) = deps ds
  | [] => by simp [pys, PyData.depthAll, deps]
  | d :: ds => by simp only [pys, PyData.depthAll, deps, dep_of d, deps_of ds]
end
/-- data that == may meet -/
def okD (d : D) : Bool := pl d && decide (dep d ≤ 64)
theorem okD_pl {d : D} (h : okD d = true) : pl d = true := by unfold okD at h; rw [Bool.and_eq_true] at h; exact h.1
theorem okD_sh {d : D} (h : okD d = true) : SeqAt.shaped (py d) = true := by
  unfold okD at h
  rw [Bool.and_eq_true] at h
  unfold SeqAt.shaped
  rw [Bool.and_eq_true]
  refine ⟨can_of d h.1, ?_⟩
  rw [dep_of]
  exact h.2
theorem pls_all : ∀ {ds : List D}, (∀ d ∈ ds, pl d = true) → pls ds = true
  | [], _ => by unfold pls; rfl
  | d :: ds, h => by
    unfold pls
    rw [h d List.mem_cons_self, pls_all fun x hx => h x (List.mem_cons_of_mem _ hx)]
    rfl
theorem deps_le {n : Nat} : ∀ {ds : List D}, (∀ d ∈ ds, dep d ≤ n) → deps ds ≤ n
  | [], _ => by unfold deps; exact Nat.zero_le _
  | d :: ds, h => by
    unfold deps
    exact Nat.max_le.mpr ⟨h d List.mem_cons_self, deps_le fun x hx => h x (List.mem_cons_of_mem _ hx)⟩
/-- depth at most n, plain -/
def Pln (n : Nat) (d : D) : Prop := pl d = true ∧ dep d ≤ n
theorem Pln.ok {n : Nat} {d : D} (h : Pln n d) (hn : n ≤ 64 := by decide) : okD d = true := by
  unfold okD
  rw [Bool.and_eq_true]
  exact ⟨h.1, decide_eq_true (Nat.le_trans h.2 hn)⟩
theorem Pln.int (i : Int) (n : Nat) : Pln n (.int i) := ⟨by simp [pl], by simp [dep]⟩
theorem Pln.bl (i : Bool) (n : Nat) : Pln n (.bl i) := ⟨by simp [pl], by simp [dep]⟩
theorem Pln.non (n : Nat) : Pln n .non := ⟨by simp [pl], by simp [dep]⟩
theorem Pln.tup {n : Nat} {ds : List D} (h : ∀ d ∈ ds, Pln n d) : Pln (n + 1) (.tup ds) := ⟨by unfold pl; exact pls_all fun d hd => (h d hd).1, by unfold dep; exact Nat.succ_le_succ (deps_le fun d hd => (h d hd).2)⟩
theorem Pln.lst {n : Nat} {ds : List D} (h : ∀ d ∈ ds, Pln n d) : Pln (n + 1) (.lst ds) := ⟨by unfold pl; exact pls_all fun d hd => (h d hd).1, by unfold dep; exact Nat.succ_le_succ (deps_le fun d hd => (h d hd).2)⟩
theorem Pln.map {α : Type} {f : α → D} {n : Nat} {xs : List α} (h : ∀ x ∈ xs, Pln n (f x)) : ∀ d ∈ xs.map f, Pln n d := fun d hd => by
  obtain ⟨x, hx, e⟩ := List.mem_map.mp hd
  rw [← e]
  exact h x hx
theorem opv_eqD {x y : D} (hx : okD x = true) (hy : okD y = true) : OpV F ks (rEqD F.K) x y (fun d => d = .bl (PyData.eqv (py x) (py y))) := fun M σ H o v w a b Q q =>
  ⟨py x, py y, dp_of (a.mono hid_same) (okD_pl hx), dp_of (b.mono hid_same) (okD_pl hy), okD_sh hx, okD_sh hy, q _ _ H o .refl (.bl _) rfl⟩
theorem opv_neD {x y : D} (hx : okD x = true) (hy : okD y = true) : OpV F ks (rNeD F.K) x y (fun d => d = .bl (!PyData.eqv (py x) (py y))) := fun M σ H o v w a b Q q =>
  ⟨py x, py y, dp_of (a.mono hid_same) (okD_pl hx), dp_of (b.mono hid_same) (okD_pl hy), okD_sh hx, okD_sh hy, q _ _ H o .refl (.bl _) rfl⟩
mutual
/-- data without True, False, static lists -/
def cln : D → Bool
  | .non => true
  | .int _ => true
  | .str _ => true
  | .lst ds => clns ds
  | .tup ds => clns ds
  | _ => false
def clns : List D → Bool
  | [] => true
  | d :: ds => cln d && clns ds
end
mutual
theorem eqv_eq : ∀ (x y : D), cln x = true → cln y = true → PyData.eqv (py x) (py y) = true → x = y
  | .non, y, _, hy, e => by cases y <;> first | rfl | (exfalso; simp [cln] at hy; done) | (exfalso; simp [py, PyData.eqv] at e; done)
  | .int i, y, _, hy, e => by cases y <;> first | (exfalso; simp [cln] at hy; done) | (exfalso; simp [py, PyData.eqv] at e; done) | (simp [py, PyData.eqv] at e; rw [e])
  | .str i, y, _, hy, e => by cases y <;> first | (exfalso; simp [cln] at hy; done) | (exfalso; simp [py, PyData.eqv] at e; done) | (simp [py, PyData.eqv] at e; rw [e])
  | .lst xs, y, hx, hy, e => by
    cases y with
    | lst ys =>
      unfold cln at hx hy
      simp only [py, PyData.eqv] at e
      rw [eqvs_eq xs ys hx hy e]
    | _ => first | (exfalso; simp [cln] at hy; done) | (exfalso; simp [py, PyData.eqv] at e; done)
  | .tup xs, y, hx, hy, e => by
    cases y with
    | tup ys =>
      unfold cln at hx hy
      simp only [py, PyData.eqv] at e
      rw [eqvs_eq xs ys hx hy e]
    | _ => first | (exfalso; simp [cln] at hy; done) | (exfalso; simp [py, PyData.eqv] at e; done)
  | .bl _, _, hx, _, _ => by unfold cln at hx; cases hx
  | .sls _, _, hx, _, _ => by unfold cln at hx; cases hx
  | .raw _, _, hx, _, _ => by unfold cln at hx; cases hx
  | .ins _ _, _, hx, _, _ => by unfold cln at hx; cases hx
theorem eqvs_eq : ∀ (xs ys : List D), clns xs = true → clns ys = true → PyData.eqvAll (pys xs) (pys ys) = true → xs = ys
  | [], [], _, _, _ => rfl
  | [], _ :: _, _, _, e => by simp [pys, PyData.eqvAll] at e
  | _ :: _, [], _, _, e => by simp [pys, PyData.eqvAll] at e
  | x :: xs, y :: ys, hx, hy, e => by
    unfold clns at hx hy
    rw [Bool.and_eq_true] at hx hy
    simp only [pys, PyData.eqvAll] at e
    rw [Bool.and_eq_true] at e
    rw [eqv_eq x y hx.1 hy.1 e.1, eqvs_eq xs ys hx.2 hy.2 e.2]
end
theorem eqv_rfl {x : D} (h : pl x = true) : PyData.eqv (py x) (py x) = true := SeqAt.eqv_refl _ (can_of x h)
theorem eqv_dec {x y : D} [Decidable (x = y)] (hx : cln x = true) (hy : cln y = true) (px : pl x = true) : PyData.eqv (py x) (py y) = decide (x = y) := by
  by_cases h : x = y
  · rw [decide_eq_true h, ← h]
    exact eqv_rfl px
  · rw [decide_eq_false h]
    cases e : PyData.eqv (py x) (py y) with
    | false => rfl
    | true => exact absurd (eqv_eq x y hx hy e) h
theorem clns_all : ∀ {ds : List D}, (∀ d ∈ ds, cln d = true) → clns ds = true
  | [], _ => by unfold clns; rfl
  | d :: ds, h => by
    unfold clns
    rw [h d List.mem_cons_self, clns_all fun x hx => h x (List.mem_cons_of_mem _ hx)]
    rfl
theorem cln_int (i : Int) : cln (.int i) = true := by simp [cln]
theorem cln_tup {ds : List D} (h : ∀ d ∈ ds, cln d = true) : cln (.tup ds) = true := by unfold cln; exact clns_all h
theorem cln_lst {ds : List D} (h : ∀ d ∈ ds, cln d = true) : cln (.lst ds) = true := by unfold cln; exact clns_all h
theorem cln_map {α : Type} {f : α → D} {xs : List α} (h : ∀ x ∈ xs, cln (f x) = true) : ∀ d ∈ xs.map f, cln d = true := fun d hd => by
  obtain ⟨x, hx, e⟩ := List.mem_map.mp hd
  rw [← e]
  exact h x hx
/-- == of coded data: f is one-to-one -/
theorem eqv_inj {α : Type} [DecidableEq α] {f : α → D} (inj : ∀ a b, f a = f b → a = b) {a b : α} (ca : cln (f a) = true) (cb : cln (f b) = true) (pa : pl (f a) = true) : PyData.eqv (py (f a)) (py (f b)) = decide (a = b) := by
  by_cases h : a = b
  · subst h
    rw [eqv_rfl pa, decide_eq_true rfl]
  · rw [decide_eq_false h]
    cases e : PyData.eqv (py (f a)) (py (f b)) with
    | false => rfl
    | true => exact absurd (inj _ _ (eqv_eq _ _ ca cb e)) h
/-! ### in -/
theorem opv_inD {x : D} {ys : List D} (hx : okD x = true) (hy : okD (.lst ys) = true) : OpV F ks (rInD F.K) x (.lst ys) (fun d => d = .bl (ys.any fun z => PyData.eqv (py z) (py x))) := fun M σ H o v w a b Q q => by
  have e : pys ys = ys.map py := by
    clear hy b q
    induction ys with
    | nil => unfold pys; rfl
    | cons y ys ih => unfold pys; rw [ih]; rfl
  have hb := dp_of (b.mono hid_same) (okD_pl hy)
  have hs := okD_sh hy
  unfold py at hb hs
  refine ⟨py x, pys ys, dp_of (a.mono hid_same) (okD_pl hx), hb, okD_sh hx, hs, ?_⟩
  rw [e, List.any_map]
  exact q _ _ H o .refl (.bl _) rfl
theorem opv_notInD {x : D} {ys : List D} (hx : okD x = true) (hy : okD (.lst ys) = true) : OpV F ks (rNotInD F.K) x (.lst ys) (fun d => d = .bl (!ys.any fun z => PyData.eqv (py z) (py x))) := fun M σ H o v w a b Q q => by
  have e : pys ys = ys.map py := by
    clear hy b q
    induction ys with
    | nil => unfold pys; rfl
    | cons y ys ih => unfold pys; rw [ih]; rfl
  have hb := dp_of (b.mono hid_same) (okD_pl hy)
  have hs := okD_sh hy
  unfold py at hb hs
  refine ⟨py x, pys ys, dp_of (a.mono hid_same) (okD_pl hx), hb, okD_sh hx, hs, ?_⟩
  rw [e, List.any_map]
  exact q _ _ H o .refl (.bl _) rfl
theorem any_code {α : Type} [DecidableEq α] {f : α → D} (inj : ∀ a b, f a = f b → a = b) (hc : ∀ a, cln (f a) = true) (hp : ∀ a, pl (f a) = true) (x : α) (ys : List α) : (ys.map f).any (fun z => PyData.eqv (py z) (py (f x))) = decide (x ∈ ys) := by
  rw [List.any_map]
  induction ys with
  | nil => simp
  | cons y ys ih =>
    rw [List.any_cons, ih]
    show (PyData.eqv (py (f y)) (py (f x)) || decide (x ∈ ys)) = _
    rw [eqv_inj inj (hc y) (hc x) (hp y)]
    by_cases h : y = x
    · simp [h]
    · have h2 : ¬ x = y := fun z => h z.symm
      simp [h, h2]
theorem inV_ints (i : Int) : ∀ ns : List Int, inV (.int i) (ns.map V.int) = decide (i ∈ ns)
  | [] => by simp [inV]
  | n :: ns => by
    have ih := inV_ints i ns
    unfold inV at ih ⊢
    rw [List.map_cons, List.any_cons, ih]
    show (n == i || decide (i ∈ ns)) = _
    by_cases h : n = i
    · simp [h]
    · have h2 : ¬ i = n := fun z => h z.symm
      simp [h, h2]
theorem flat_ints (ns : List Int) : (ns.map V.int).all flatV = true := by
  rw [List.all_map]
  exact List.all_eq_true.mpr fun _ _ => rfl
theorem opv_inI {i : Int} {y : D} {ns : List Int} (hy : y = .lst (ns.map D.int) ∨ y = .tup (ns.map D.int)) : OpV F ks (rIn F.K false) (.int i) y (fun d => d = .bl (decide (i ∈ ns))) := fun M σ H o v w a b Q q => by
  cases a
  rcases hy with e | e
  · subst e
    cases b with
    | lst hl hs =>
      have e := hs.ints
      subst e
      refine ⟨_, _, rfl, .inl (.inl (.inl (hid_same _ _ hl))), rfl, flat_ints ns, ?_⟩
      show Q (.bl (inV (.int i) (ns.map V.int))) H
      rw [inV_ints]
      exact q _ _ H o .refl (.bl _) rfl
  · subst e
    cases b with
    | tup hl hs =>
      have e := hs.ints
      subst e
      refine ⟨_, _, rfl, .inr (same_t hid_same hl), rfl, flat_ints ns, ?_⟩
      show Q (.bl (inV (.int i) (ns.map V.int))) H
      rw [inV_ints]
      exact q _ _ H o .refl (.bl _) rfl
theorem opv_notInI {i : Int} {y : D} {ns : List Int} (hy : y = .lst (ns.map D.int) ∨ y = .tup (ns.map D.int)) : OpV F ks (rIn F.K true) (.int i) y (fun d => d = .bl (!decide (i ∈ ns))) := fun M σ H o v w a b Q q => by
  cases a
  rcases hy with e | e
  · subst e
    cases b with
    | lst hl hs =>
      have e := hs.ints
      subst e
      refine ⟨_, _, rfl, .inl (.inl (.inl (hid_same _ _ hl))), rfl, flat_ints ns, ?_⟩
      show Q (.bl (!inV (.int i) (ns.map V.int))) H
      rw [inV_ints]
      exact q _ _ H o .refl (.bl _) rfl
  · subst e
    cases b with
    | tup hl hs =>
      have e := hs.ints
      subst e
      refine ⟨_, _, rfl, .inr (same_t hid_same hl), rfl, flat_ints ns, ?_⟩
      show Q (.bl (!inV (.int i) (ns.map V.int))) H
      rw [inV_ints]
      exact q _ _ H o .refl (.bl _) rfl
/-! ### isinstance, built-in classes -/
def tyD : D → Option String
  | .non => some "NoneType"
  | .bl _ => some "bool"
  | .int _ => some "int"
  | .str _ => some "str"
  | .lst _ => some "list"
  | .sls _ => some "list"
  | .tup _ => some "tuple"
  | _ => none
theorem tyx_of {K : PySem.W.Frag} {H : Hp} {v : V} {d : D} {n : String} (a : At K H v d) (h : tyD d = some n) : TyX K H v (.type n) := by
  cases a with
  | non => cases h; exact .base .non
  | bl b => cases h; exact .base (.bl b)
  | int i => cases h; exact .base (.int i)
  | str x => cases h; exact .base (.str x)
  | lst hl hs => cases h; exact .base (.lst hl)
  | sls hl hs =>
    cases h
    rcases hl with (hl | ⟨o, hl⟩) | ⟨o, its, m, hl, hc, _⟩
    · exact .base (.lst hl)
    · exact .base (.frz hl)
    · exact .kList hl hc
  | tup hl hs =>
    cases h
    rcases hl with (hl | ⟨o, hl⟩) | ⟨o, its, m, hl, hc, _⟩
    · exact .base (.tup hl)
    · exact .fTuple hl
    · exact .kTuple hl hc
  | raw v => cases h
  | ins _ _ _ => cases h
theorem cav_isi {x : D} {n T : String} {b : Bool} (h : tyD x = some n) (hk : kitB n T = some b) : CaV F ks (rIsi F.K) [x, .raw (.ty T)] (fun d => d = .bl b) := fun M σ H o vs a Q q => by
  cases a with
  | cons a1 a2 =>
    cases a2 with
    | cons a2 a3 =>
      cases a3
      cases a2
      exact ⟨_, _, _, _, b, rfl, .ty T, tyx_of (a1.mono hid_same) h, kit_ty hk, q _ _ H o .refl (.bl b) rfl⟩
theorem ev_isiT2 {te : TE} {x : D} {n T U : String} {b c : Bool} (he : Ev F ks te x) (h : tyD x = some n) (h1 : kitB n T = some b) (h2 : kitB n U = some c) :
    Ev F ks (tCB (rIsiT F.K) (tCons te (tCons (tTup (tCons (tC (.ty T)) (tCons (tC (.ty U)) tNil))) tNil))) (.bl (b || c)) := fun M σ H o Q q => he M σ H o _ fun v d H1 o1 s1 a1 e => by
  subst e
  refine ⟨by show 2 ≤ sizeLine; decide, fun p np => ?_⟩
  refine ⟨v, p, [.ty T, .ty U], .type n, [.type T, .type U], b || c, rfl, upd_same, .cons (.ty T) (.cons (.ty U) .nil), tyx_of ((a1.mono hid_same).mono (same_new np)) h, ?_, ?_⟩
  · refine kitAny_cons (kit_ty h1) (fun e => ?_) (fun e => by rw [e]; rfl)
    subst e
    refine kitAny_cons (kit_ty h2) (fun e => ?_) (fun e => by rw [e]; rfl)
    subst e
    exact kitAny_nil
  · exact q _ _ _ (o1.same (same_new np)) (s1.trans (.of (same_new np))) (.bl _) rfl
/-! ### reading a list that one may change -/
theorem ev_ixO {i : Nat} {k : Kd} {tj : TE} {j : Int} {R : D → Prop} (hk : ks[i]? = some k) (hm : isM k = true) (h : Ev F ks tj (.int j)) (hj : ∀ ds, wishK k ds → ∃ d, atI ds j = some d ∧ R d) : EvR F ks (tOp (rIxL F.K) (tVar i) tj) R := fun M σ H o Q q => by
  obtain ⟨p, h1, _⟩ := o.wish hk hm
  refine ⟨.ref p, h1, ?_⟩
  refine h M σ H o _ fun v d H1 o1 s1 a1 e => ?_
  subst e
  cases a1
  obtain ⟨p', h1', h2, h3, vs, ds, h4, h5, h6⟩ := o1.wish hk hm
  rw [h1] at h1'
  cases h1'
  obtain ⟨d, g1, g2⟩ := hj ds h6
  have e : ∃ u, atI vs j = some u ∧ At F.K (hid M H1) u d := by
    unfold atI at g1 ⊢
    rw [h5.length]
    cases z : ixN ds.length j with
    | none => rw [z] at g1; cases g1
    | some m =>
      rw [z] at g1
      exact h5.get g1
  obtain ⟨u, e1, e2⟩ := e
  exact ⟨p, vs, j, u, rfl, rfl, .inl (.inl h4), e1, q _ _ H1 o1 s1 e2 g2⟩
theorem ev_lenO {i : Nat} {k : Kd} {R : D → Prop} (hk : ks[i]? = some k) (hm : isM k = true) (hj : ∀ ds, wishK k ds → R (.int ds.length)) : EvR F ks (tCB (fun xs H Q => ∃ x n, xs = [x] ∧ LenV F.K x H n ∧ Q (.int n) H) (tCons (tVar i) tNil)) R := fun M σ H o Q q => by
  obtain ⟨p, h1, h2, h3, vs, ds, h4, h5, h6⟩ := o.wish hk hm
  exact ⟨.ref p, h1, _, _, rfl, .inl ⟨vs, .inl (.inl h4), rfl⟩, by rw [h5.length]; exact q _ _ H o .refl (.int _) (hj ds h6)⟩
/-- what such a list holds now -/
theorem cont_open {i : Nat} {k : Kd} {N : Sg → Hp → Prop} (hk : ks[i]? = some k) (hm : isM k = true) (c : ∀ ds, wishK k ds → Cont F (ks.set i (reK k fun x => x = ds)) N) : Cont F ks N := fun M σ H o => by
  obtain ⟨p, h1, h2, h3, vs, ds, h4, h5, h6⟩ := o.wish hk hm
  refine c ds h6 M σ H ?_
  have := o.putO hk hm h1 (ψ := fun x => x = ds) h5 rfl
  have e : upd H p (.lst vs) = H := by
    funext b
    by_cases q : b = p
    · rw [q, upd_same, h4]
    · rw [upd_ne q]
  rw [e] at this
  exact this
/-! ### promises -/
/-- the arguments ds, each answer of T -/
def spP (S : List D → (D → Prop) → Prop) (K : PySem.W.Frag) : Sp := fun vs H Q _ => ∃ M ds T, Ats K (hid M H) vs ds ∧ (∀ a ∈ M, ∃ o, H a = some o) ∧ S ds T ∧ ∀ d v H', T d → Same H H' → At K (hid M H') v d → Q v H'
/-- .. a new list -/
def spL (S : List D → (List D → Prop) → Prop) (K : PySem.W.Frag) : Sp := fun vs H Q _ => ∃ M ds T, Ats K (hid M H) vs ds ∧ (∀ a ∈ M, ∃ o, H a = some o) ∧ S ds T ∧ ∀ p ws es H', T es → H p = none → Same H H' → H' p = some (.lst ws) → Ats K (hid (p :: M) H') ws es → Q (.ref p) H'
/-- .. the first argument a list that it may change within φ -/
def spS (φ : List D → Prop) (S : List D → (D → Prop) → Prop) (K : PySem.W.Frag) : Sp := fun vs H Q _ => ∃ M a us vs0 ds0 ds T, vs = .ref a :: us ∧ a ∈ M ∧ H a = some (.lst vs0) ∧ Ats K (hid M H) vs0 ds0 ∧ φ ds0 ∧ Ats K (hid M H) us ds ∧ (∀ a ∈ M, ∃ o, H a = some o) ∧ S ds T ∧
  ∀ d v H' vs1 ds1, T d → (∀ b o, H b = some o → b ≠ a → H' b = some o) → H' a = some (.lst vs1) → Ats K (hid M H') vs1 ds1 → φ ds1 → At K (hid M H') v d → Q v H'
def spSL (φ : List D → Prop) (S : List D → (List D → Prop) → Prop) (K : PySem.W.Frag) : Sp := fun vs H Q _ => ∃ M a us vs0 ds0 ds T, vs = .ref a :: us ∧ a ∈ M ∧ H a = some (.lst vs0) ∧ Ats K (hid M H) vs0 ds0 ∧ φ ds0 ∧ Ats K (hid M H) us ds ∧ (∀ a ∈ M, ∃ o, H a = some o) ∧ S ds T ∧
  ∀ p ws es H' vs1 ds1, T es → H p = none → (∀ b o, H b = some o → b ≠ a → H' b = some o) → H' a = some (.lst vs1) → Ats K (hid (p :: M) H') vs1 ds1 → φ ds1 → H' p = some (.lst ws) → Ats K (hid (p :: M) H') ws es → Q (.ref p) H'
theorem ev_callR {S : List D → (D → Prop) → Prop} {E : XK} {ta : TA} {Ra : List D → Prop} {R : D → Prop} (h : EvAR F ks ta Ra) (hS : ∀ ds, Ra ds → ∃ T, S ds T ∧ ∀ d, T d → R d) : EvR F ks (tCall (spP S F.K) [] E ta) R := fun M σ H o Q q =>
  h M σ H o _ fun vs ds H1 o1 s1 a1 r1 => by
    obtain ⟨T, hT, i⟩ := hS ds r1
    refine ⟨M, ds, T, by rw [List.append_nil]; exact a1, o1.live, hT, fun d v H' t sm a => ?_⟩
    exact q v d H' (o1.same sm) (s1.trans (.of sm)) a (i d t)
theorem ev_call {S : List D → (D → Prop) → Prop} {E : XK} {ta : TA} {ds : List D} {T : D → Prop} (h : EvA F ks ta ds) (hS : S ds T) : EvR F ks (tCall (spP S F.K) [] E ta) T := ev_callR h fun es e => ⟨T, by rw [e]; exact hS, fun _ t => t⟩
theorem el_callR {S : List D → (List D → Prop) → Prop} {E : XK} {ta : TA} {Ra : List D → Prop} {R : List D → Prop} (h : EvAR F ks ta Ra) (hS : ∀ ds, Ra ds → ∃ T, S ds T ∧ ∀ d, T d → R d) : EvLR F ks (tCall (spL S F.K) [] E ta) R := fun M σ H o Q q =>
  h M σ H o _ fun vs ds H1 o1 s1 a1 r1 => by
    obtain ⟨T, hT, i⟩ := hS ds r1
    refine ⟨M, ds, T, by rw [List.append_nil]; exact a1, o1.live, hT, fun p ws es H' t n sm l a => ?_⟩
    have e : hid (p :: M) (upd H1 p (.lst ws)) = hid M H1 := hid_new n
    have sm2 : Same (upd H1 p (.lst ws)) H' := fun b u hb => by
      by_cases q : b = p
      · subst q
        rw [upd_same] at hb
        cases hb
        exact l
      · rw [upd_ne q] at hb
        exact sm b u hb
    refine q p ws es H' ?_ ((o1.hide n).same sm2) (s1.trans (.of sm)) l a (i es t)
    cases e : H p with
    | none => rfl
    | some u =>
      rw [s1 _ _ e (o1.noOwn n)] at n
      cases n
theorem el_call {S : List D → (List D → Prop) → Prop} {E : XK} {ta : TA} {ds : List D} {T : List D → Prop} (h : EvA F ks ta ds) (hS : S ds T) : EvLR F ks (tCall (spL S F.K) [] E ta) T := el_callR h fun es e => ⟨T, by rw [e]; exact hS, fun _ t => t⟩
theorem Ok.turn (o : Ok F ks M σ H) {i : Nat} {k : Kd} {a : Addr} {vs1 : List V} {ds1 : List D} (hk : ks[i]? = some k) (hm : isM k = true) (ha : σ[i]? = some (some (.ref a))) (s : ∀ b u, H b = some u → b ≠ a → H' b = some u) (l : H' a = some (.lst vs1)) (at1 : Ats F.K (hid M H') vs1 ds1) (f : wishK k ds1) : Ok F ks M σ H' ∧ Step ks σ H H' := by
  have own : OwnA ks σ a := ⟨i, k, hk, hm, ha⟩
  have st : Step ks σ H H' := fun b u h n => s b u h fun z => n (by rw [z]; exact own)
  have hs := o.hidStep st
  have has : ∀ (j : Nat) (k' : Kd) (p : Addr), ks[j]? = some k' → isM k' = true → Has F M H σ[j]? p (wishK k') → Has F M H' σ[j]? p (wishK k') := fun j k' p e m h => by
    obtain ⟨h1, h2, h3, vs, ds, h4, h5, h6⟩ := h
    by_cases q : p = a
    · subst q
      have ij : j = i := o.inj j i k' k p e hk m hm h1 ha
      subst ij
      rw [e] at hk
      cases hk
      exact ⟨h1, h2, h3, vs1, ds1, l, at1, f⟩
    · exact ⟨h1, h2, h3, vs, ds, s _ _ h4 q, h5.mono hs, h6⟩
  have hB : F.B a = none := by
    obtain ⟨p, h1, h2, h3, _⟩ := o.wish hk hm
    rw [ha] at h1
    cases h1
    exact h3
  have hN : ∀ (i : Nat) (χ : List (List D) → Prop), ks[i]? = some (.nst χ) → ∃ p qs, Nes F M H' σ[i]? p qs χ ∧ ∀ a ∈ p :: qs, ¬ OwnA ks σ a := fun i χ e => by
    obtain ⟨p, qs, h1, h2⟩ := o.nst i χ e
    exact ⟨p, qs, h1.to rfl rfl h1.mem (fun b hb u g => st b u g (h2 b hb)) hs (fun _ r => r), h2⟩
  refine ⟨⟨o.len, fun i d e => ?_, fun i φ e => ?_, fun i φ e => ?_, o.inj, hN, o.one, fun b u h => s b u (o.base b u h) (fun z => by rw [z, hB] at h; cases h), o.vis.trans hs, o.sup, fun b hb => ?_⟩, st⟩
  · obtain ⟨v, h1, h2⟩ := o.dat i d e
    exact ⟨v, h1, h2.mono hs⟩
  · obtain ⟨p, h1, h2⟩ := o.own i φ e
    exact ⟨p, h1, has i (.own φ) p e rfl h2⟩
  · obtain ⟨p, h1, h2⟩ := o.bor i φ e
    exact ⟨p, h1, has i (.bor φ) p e rfl h2⟩
  · by_cases q : b = a
    · exact ⟨_, by rw [q]; exact l⟩
    · obtain ⟨u, hu⟩ := o.live b hb
      exact ⟨u, s b u hu q⟩
/-- a call that may change slot i's list within its wish -/
theorem ev_callSR {φ : List D → Prop} {S : List D → (D → Prop) → Prop} {E : XK} {ta : TA} {i : Nat} {k : Kd} {Ra : List D → Prop} {R : D → Prop} (hk : ks[i]? = some k) (hm : isM k = true) (hφ : wishK k = φ) (h : EvAR F ks ta Ra) (hS : ∀ ds, Ra ds → ∃ T, S ds T ∧ ∀ d, T d → R d) :
    EvR F ks (tCall (spS φ S F.K) [] E (tCons (tVar i) ta)) R := fun M σ H o Q q => by
  obtain ⟨p, h1, _⟩ := o.wish hk hm
  refine ⟨.ref p, h1, ?_⟩
  refine h M σ H o _ fun vs ds H1 o1 s1 a1 r1 => ?_
  obtain ⟨p', h1', h2, h3, vs0, ds0, h4, h5, h6⟩ := o1.wish hk hm
  rw [h1] at h1'
  cases h1'
  obtain ⟨T, hT, it⟩ := hS ds r1
  refine ⟨M, p, vs ++ [], vs0, ds0, ds, T, rfl, h2, h4, h5, by rw [← hφ]; exact h6, by rw [List.append_nil]; exact a1, o1.live, hT, fun d v H' vs1 ds1 t s l b f a => ?_⟩
  obtain ⟨o2, s2⟩ := o1.turn hk hm h1 s l b (by rw [hφ]; exact f)
  exact q v d H' o2 (s1.trans s2) a (it d t)
theorem ev_callS {φ : List D → Prop} {S : List D → (D → Prop) → Prop} {E : XK} {ta : TA} {i : Nat} {k : Kd} {ds : List D} {T : D → Prop} (hk : ks[i]? = some k) (hm : isM k = true) (hφ : wishK k = φ) (h : EvA F ks ta ds) (hS : S ds T) :
    EvR F ks (tCall (spS φ S F.K) [] E (tCons (tVar i) ta)) T := ev_callSR hk hm hφ h fun es e => ⟨T, by rw [e]; exact hS, fun _ t => t⟩
theorem el_callSR {φ : List D → Prop} {S : List D → (List D → Prop) → Prop} {E : XK} {ta : TA} {i : Nat} {k : Kd} {Ra : List D → Prop} {R : List D → Prop} (hk : ks[i]? = some k) (hm : isM k = true) (hφ : wishK k = φ) (h : EvAR F ks ta Ra) (hS : ∀ ds, Ra ds → ∃ T, S ds T ∧ ∀ d, T d → R d) :
    EvLR F ks (tCall (spSL φ S F.K) [] E (tCons (tVar i) ta)) R := fun M σ H o Q q => by
  obtain ⟨p, h1, _⟩ := o.wish hk hm
  refine ⟨.ref p, h1, ?_⟩
  refine h M σ H o _ fun vs ds H1 o1 s1 a1 r1 => ?_
  obtain ⟨p', h1', h2, h3, vs0, ds0, h4, h5, h6⟩ := o1.wish hk hm
  rw [h1] at h1'
  cases h1'
  obtain ⟨T, hT, it⟩ := hS ds r1
  refine ⟨M, p, vs ++ [], vs0, ds0, ds, T, rfl, h2, h4, h5, by rw [← hφ]; exact h6, by rw [List.append_nil]; exact a1, o1.live, hT, fun t ws es H' vs1 ds1 ht n s l b f l2 a => ?_⟩
  have sm2 : ∀ b u, (upd H1 t (.lst ws)) b = some u → b ≠ p → H' b = some u := fun b u hb nb => by
    by_cases q : b = t
    · subst q
      rw [upd_same] at hb
      cases hb
      exact l2
    · rw [upd_ne q] at hb
      exact s b u hb nb
  obtain ⟨o2, s2⟩ := (o1.hide (u := .lst ws) n).turn hk hm h1 sm2 l b (by rw [hφ]; exact f)
  refine q t ws es H' ?_ o2 (s1.trans fun b u hb nb => s2 b u (same_new n _ _ hb) nb) l2 a (it es ht)
  cases e : H t with
  | none => rfl
  | some u =>
    rw [s1 _ _ e (o1.noOwn n)] at n
    cases n
theorem el_callS {φ : List D → Prop} {S : List D → (List D → Prop) → Prop} {E : XK} {ta : TA} {i : Nat} {k : Kd} {ds : List D} {T : List D → Prop} (hk : ks[i]? = some k) (hm : isM k = true) (hφ : wishK k = φ) (h : EvA F ks ta ds) (hS : S ds T) :
    EvLR F ks (tCall (spSL φ S F.K) [] E (tCons (tVar i) ta)) T := el_callSR hk hm hφ h fun es e => ⟨T, by rw [e]; exact hS, fun _ t => t⟩
/-! ### entries, returns -/
theorem start_get {N : List Str} {vs : List V} {i : Nat} {v : V} (h : vs[i]? = some v) : (L2.start N vs)[i]? = some (some v) := by
  unfold L2.start
  have l := (List.getElem?_eq_some_iff.mp h).1
  rw [List.getElem?_append_left (by rw [List.length_map]; exact l), List.getElem?_map, h]
  rfl
/-- the kinds at the entry -/
def kin (ds : List D) (n : Nat) : List Kd := ds.map Kd.dat ++ List.replicate n .any
theorem kin_dat {ds : List D} {n i : Nat} {d : D} (h : (kin ds n)[i]? = some (.dat d)) : ds[i]? = some d := by
  unfold kin at h
  by_cases l : i < ds.length
  · rw [List.getElem?_append_left (by rw [List.length_map]; exact l), List.getElem?_map, List.getElem?_eq_getElem l] at h
    rw [List.getElem?_eq_getElem l]
    cases h
    rfl
  · rw [List.getElem?_append_right (by rw [List.length_map]; omega), List.getElem?_replicate] at h
    split at h <;> cases h
theorem kin_noN {ds : List D} {n i : Nat} {φ : List (List D) → Prop} : ¬ (kin ds n)[i]? = some (.nst φ) := fun h => by
  unfold kin at h
  by_cases l : i < ds.length
  · rw [List.getElem?_append_left (by rw [List.length_map]; exact l), List.getElem?_map, List.getElem?_eq_getElem l] at h
    cases h
  · rw [List.getElem?_append_right (by rw [List.length_map]; omega), List.getElem?_replicate] at h
    split at h <;> cases h
theorem kin_noM {ds : List D} {n i : Nat} {k : Kd} (h : (kin ds n)[i]? = some k) : isM k = false := by
  unfold kin at h
  by_cases l : i < ds.length
  · rw [List.getElem?_append_left (by rw [List.length_map]; exact l), List.getElem?_map, List.getElem?_eq_getElem l] at h
    cases h
    rfl
  · rw [List.getElem?_append_right (by rw [List.length_map]; omega), List.getElem?_replicate] at h
    split at h <;> cases h
    rfl
theorem ok_start {K : PySem.W.Frag} {N : List Str} {vs : List V} {ds : List D} (h : Ats K (hid M H) vs ds) (lv : ∀ a ∈ M, ∃ o, H a = some o) {ks : List Kd} (e : ks = kin ds (N.length - ds.length)) (hl : ds.length ≤ N.length) : Ok ⟨K, H, hid M H, M⟩ ks M (L2.start N vs) H := by
  subst e
  refine ⟨?_, fun i d e => ?_, fun i φ e => ?_, fun i φ e => ?_, fun i j k l p e1 e2 m1 m2 _ _ => ?_, fun i φ e => absurd e kin_noN, fun i j φ ψ e => absurd e kin_noN, Same.refl _, Same.refl _, fun a z => z, lv⟩
  · unfold L2.start kin
    rw [List.length_append, List.length_append, List.length_map, List.length_map, List.length_replicate, List.length_replicate, h.length]
  · obtain ⟨v, h1, h2⟩ := h.get (kin_dat e)
    exact ⟨v, start_get h1, h2⟩
  · have := kin_noM e
    cases this
  · have := kin_noM e
    cases this
  · rw [kin_noM e1] at m1
    cases m1
theorem ok_startS {K : PySem.W.Frag} {N : List Str} {us : List V} {ds : List D} {a : Addr} {vs0 : List V} {ds0 : List D} {φ : List D → Prop} (ha : a ∈ M) (hl0 : H a = some (.lst vs0)) (h0 : Ats K (hid M H) vs0 ds0) (hφ : φ ds0) (h : Ats K (hid M H) us ds) (lv : ∀ a ∈ M, ∃ o, H a = some o)
    {ks : List Kd} (e : ks = .bor φ :: kin ds (N.length - 1 - ds.length)) (hl : ds.length + 1 ≤ N.length) : Ok ⟨K, hid [a] H, hid M H, M⟩ ks M (L2.start N (.ref a :: us)) H := by
  subst e
  have kn : ∀ (i : Nat) (ψ : List (List D) → Prop), ¬ (Kd.bor φ :: kin ds (N.length - 1 - ds.length))[i]? = some (.nst ψ) := fun i ψ e => by
    cases i with
    | zero => cases e
    | succ i =>
      rw [List.getElem?_cons_succ] at e
      exact kin_noN e
  refine ⟨?_, fun i d e => ?_, fun i ψ e => ?_, fun i ψ e => ?_, fun i j k l p e1 e2 m1 m2 _ _ => ?_, fun i φ e => absurd e (kn i φ), fun i j φ ψ e => absurd e (kn i φ), hid_same, Same.refl _, fun a z => z, lv⟩
  · unfold L2.start kin
    rw [List.length_append, List.length_map, List.length_cons, List.length_replicate, List.length_cons, List.length_append, List.length_map, List.length_replicate, h.length]
    omega
  · cases i with
    | zero => cases e
    | succ i =>
      rw [List.getElem?_cons_succ] at e
      obtain ⟨v, h1, h2⟩ := h.get (kin_dat e)
      exact ⟨v, start_get (by rw [List.getElem?_cons_succ]; exact h1), h2⟩
  · cases i with
    | zero => cases e
    | succ i =>
      rw [List.getElem?_cons_succ] at e
      have := kin_noM e
      cases this
  · cases i with
    | zero =>
      cases e
      exact ⟨a, ha, start_get rfl, ha, hid_in (by simp), vs0, ds0, hl0, h0, hφ⟩
    | succ i =>
      rw [List.getElem?_cons_succ] at e
      have := kin_noM e
      cases this
  · cases i with
    | zero =>
      cases j with
      | zero => rfl
      | succ j =>
        rw [List.getElem?_cons_succ] at e2
        rw [kin_noM e2] at m2
        cases m2
    | succ i =>
      rw [List.getElem?_cons_succ] at e1
      rw [kin_noM e1] at m1
      cases m1
theorem enterP {K : PySem.W.Frag} {N : List Str} {vs : List V} {ds : List D} {t : TS} {E : Ends} (h : Ats K (hid M H) vs ds) (lv : ∀ a ∈ M, ∃ o, H a = some o) (ks : List Kd) (e : ks = kin ds (N.length - ds.length)) (hl : ds.length ≤ N.length) (r : Run ⟨K, H, hid M H, M⟩ ks t E) : t E (L2.start N vs) H := r M _ H (ok_start h lv e hl)
theorem enterS {K : PySem.W.Frag} {N : List Str} {us : List V} {ds : List D} {a : Addr} {vs0 : List V} {ds0 : List D} {φ : List D → Prop} {t : TS} {E : Ends} (ha : a ∈ M) (hl0 : H a = some (.lst vs0)) (h0 : Ats K (hid M H) vs0 ds0) (hφ : φ ds0) (h : Ats K (hid M H) us ds) (lv : ∀ a ∈ M, ∃ o, H a = some o)
    (ks : List Kd) (e : ks = .bor φ :: kin ds (N.length - 1 - ds.length)) (hl : ds.length + 1 ≤ N.length) (r : Run ⟨K, hid [a] H, hid M H, M⟩ ks t E) : t E (L2.start N (.ref a :: us)) H := r M _ H (ok_startS ha hl0 h0 hφ h lv e hl)
/-- a return keeps spP -/
theorem run_retP {H0 : Hp} {M0 : List Addr} {Q : VK} {T R : D → Prop} {te : TE} {E : Ends} (q : ∀ d v H', T d → Same H0 H' → At F.K (hid M0 H') v d → Q v H') (hb : Same H0 F.B) (hm : F.M0 = M0) (hE : E.rt = Q) (h : EvR F ks te R) (i : ∀ d, R d → T d) : Run F ks (tRet te) E :=
  run_retR h fun M v d σ H o a r => by
    rw [hE]
    exact q d v H (i d r) (hb.trans o.base) (a.mono (hid_sub fun b hb => o.sup b (by rw [hm]; exact hb)))
/-- .. spL -/
theorem run_retL {H0 : Hp} {M0 : List Addr} {Q : VK} {T R : List D → Prop} {te : TE} {E : Ends} (q : ∀ p ws es H', T es → H0 p = none → Same H0 H' → H' p = some (.lst ws) → Ats F.K (hid (p :: M0) H') ws es → Q (.ref p) H') (hb : Same H0 F.B) (hm : F.M0 = M0) (hE : E.rt = Q) (h : EvLR F ks te R) (i : ∀ d, R d → T d) : Run F ks (tRet te) E :=
  fun M σ H o => h M σ H o _ fun p ws es H1 n o1 s1 l1 a1 r1 => by
    rw [hE]
    refine q p ws es H1 (i es r1) ?_ (hb.trans o1.base) l1 (a1.mono (hid_sub fun b hb => ?_))
    · cases e : H0 p with
      | none => rfl
      | some u =>
        rw [o.base _ _ (hb _ _ e)] at n
        cases n
    · rcases List.mem_cons.mp hb with z | z
      · rw [z]; exact List.mem_cons_self
      · exact List.mem_cons_of_mem _ (o.sup b (by rw [hm]; exact z))
/-- .. a list of one's own -/
theorem run_retO {H0 : Hp} {M0 : List Addr} {Q : VK} {T : List D → Prop} {i : Nat} {φ : List D → Prop} {E : Ends} (q : ∀ p ws es H', T es → H0 p = none → Same H0 H' → H' p = some (.lst ws) → Ats F.K (hid (p :: M0) H') ws es → Q (.ref p) H') (hb : Same H0 F.B) (hm : F.M0 = M0) (hE : E.rt = Q) (hk : ks[i]? = some (.own φ)) (hi : ∀ d, φ d → T d) : Run F ks (tRet (tVar i)) E :=
  fun M σ H o => by
    obtain ⟨p, n0, h1, h2, h3, vs, ds, h4, h5, h6⟩ := o.own i φ hk
    refine ⟨.ref p, h1, ?_⟩
    show E.rt (.ref p) H
    rw [hE]
    refine q p vs ds H (hi ds h6) ?_ (hb.trans o.base) h4 (h5.mono (hid_sub fun b hb => ?_))
    · cases e : H0 p with
      | none => rfl
      | some u =>
        rw [hb _ _ e] at h3
        cases h3
    · rcases List.mem_cons.mp hb with z | z
      · rw [z]; exact h2
      · exact o.sup b (by rw [hm]; exact z)
/-- .. spS, the list in slot i -/
theorem bor_at {H0 : Hp} {a : Addr} {i : Nat} {φ : List D → Prop} (hb : Same (hid [a] H0) F.B) (lv : ∀ b ∈ F.M0, ∃ o, H0 b = some o) (hk : ks[i]? = some (.bor φ)) (o : Ok F ks M σ H) : Has F M H σ[i]? a φ := by
  obtain ⟨p, n0, h⟩ := o.bor i φ hk
  by_cases e : p = a
  · rw [← e]; exact h
  · obtain ⟨u, hu⟩ := lv p n0
    have := hb p u (by rw [hid_out (by simpa using e)]; exact hu)
    rw [h.2.2.1] at this
    cases this
theorem run_retS {H0 : Hp} {M0 : List Addr} {Q : VK} {T R : D → Prop} {te : TE} {E : Ends} {i : Nat} {a : Addr} {φ : List D → Prop} (q : ∀ d v H' vs1 ds1, T d → (∀ b o, H0 b = some o → b ≠ a → H' b = some o) → H' a = some (.lst vs1) → Ats F.K (hid M0 H') vs1 ds1 → φ ds1 → At F.K (hid M0 H') v d → Q v H')
    (hb : Same (hid [a] H0) F.B) (lv : ∀ b ∈ F.M0, ∃ o, H0 b = some o) (hm : F.M0 = M0) (hE : E.rt = Q) (hk : ks[i]? = some (.bor φ)) (h : EvR F ks te R) (hi : ∀ d, R d → T d) : Run F ks (tRet te) E :=
  run_retR h fun M v d σ H o at1 r => by
    rw [hE]
    obtain ⟨h1, h2, h3, vs, ds, h4, h5, h6⟩ := bor_at hb lv hk o
    have sub : Same (hid M H) (hid M0 H) := hid_sub fun b hb => o.sup b (by rw [hm]; exact hb)
    refine q d v H vs ds (hi d r) (fun b u hb2 nb => o.base _ _ (hb _ _ (by rw [hid_out (by simpa using nb)]; exact hb2))) h4 (h5.mono sub) h6 (at1.mono sub)
theorem run_retSL {H0 : Hp} {M0 : List Addr} {Q : VK} {T R : List D → Prop} {te : TE} {E : Ends} {i : Nat} {a : Addr} {φ : List D → Prop}
    (q : ∀ p ws es H' vs1 ds1, T es → H0 p = none → (∀ b o, H0 b = some o → b ≠ a → H' b = some o) → H' a = some (.lst vs1) → Ats F.K (hid (p :: M0) H') vs1 ds1 → φ ds1 → H' p = some (.lst ws) → Ats F.K (hid (p :: M0) H') ws es → Q (.ref p) H')
    (hb : Same (hid [a] H0) F.B) (lv : ∀ b ∈ F.M0, ∃ o, H0 b = some o) (hm : F.M0 = M0) (hE : E.rt = Q) (hk : ks[i]? = some (.bor φ)) (h : EvLR F ks te R) (hi : ∀ d, R d → T d) : Run F ks (tRet te) E :=
  fun M σ H o => h M σ H o _ fun p ws es H1 n o1 s1 l1 a1 r1 => by
    rw [hE]
    obtain ⟨_, _, _, vs0, ds0, g4, _, _⟩ := bor_at hb lv hk o
    obtain ⟨h1, h2, h3, vs, ds, h4, h5, h6⟩ := bor_at hb lv hk o1
    have sub : Same (hid (p :: M) H1) (hid (p :: M0) H1) := hid_sub fun b hb => by
      rcases List.mem_cons.mp hb with z | z
      · rw [z]; exact List.mem_cons_self
      · exact List.mem_cons_of_mem _ (o.sup b (by rw [hm]; exact z))
    have bs : ∀ b u, H0 b = some u → b ≠ a → F.B b = some u := fun b u hb2 nb => hb _ _ (by rw [hid_out (by simpa using nb)]; exact hb2)
    refine q p ws es H1 vs ds (hi es r1) ?_ (fun b u hb2 nb => o1.base _ _ (bs b u hb2 nb)) h4 (h5.mono sub) h6 l1 (a1.mono sub)
    by_cases e : p = a
    · rw [e, g4] at n
      cases n
    · cases e2 : H0 p with
      | none => rfl
      | some u =>
        rw [o.base _ _ (bs p u e2 e)] at n
        cases n
end
end Dl
set_option Elab.async false
set_option linter.all false
set_option maxRecDepth 100000
set_option maxHeartbeats 4000000
/-! TupX: t[::-1] of a tuple; t * k for any small k. -/
namespace TupX
open PySem PySem.Spec PyProof.Rows L2 HT
section
variable {prog : Program} {w : World} {A : Around} {E : Value → Shared → Prop} {s : Shared}
theorem adjust_rev (n : Nat) : Builtin.Slice.sliceAdjust none none (-1) (n : Int) = ((n : Int) - 1, -1) := by
  unfold Builtin.Slice.sliceAdjust
  have h1 : ((-1 : Int) < 0) := by omega
  simp only [h1, if_true]
theorem places_rev (n : Nat) : Builtin.Slice.slicePlaces ((n : Int) - 1) (-1) (-1) = n := by
  unfold Builtin.Slice.slicePlaces
  have h1 : ¬ ((-1 : Int) > 0) := by omega
  simp only [h1, if_false, Int.neg_neg, Int.ediv_one]
  split <;> omega
theorem sliceApplied_rev {sl : Addr} {vl vu vs : Value} {n : Nat} {Q : Int × Int × Nat → Shared → Prop} (hs : s.heap.IsSliceOf sl vl vu vs) (pl : IsPart vl none) (pu : IsPart vu none) (ps : IsPart vs (some (-1)))
    (h : Q ((n : Int) - 1, -1, n) s) : wpAny (model prog w) A (Builtin.Slice.sliceApplied (.ref sl) (pure (n : Int))) Q E s := by
  obtain ⟨os, hos, hcs, hds⟩ := id hs
  unfold Builtin.Slice.sliceApplied Builtin.Slice.sliceFields
  refine wpAny_bind (wpAny_bind (wpAny_field hos hds (x := vl) rfl (wpAny_bind (wpAny_field hos hds (x := vu) rfl (wpAny_bind (wpAny_field hos hds (x := vs) rfl (wpAny_pure ?_)))))))
  refine wpAny_bind (slicePart_ ps ?_)
  show wpAny _ _ (if ((-1 : Int) == 0) = true then _ else _) _ _ s
  rw [if_neg (by decide)]
  refine wpAny_bind (slicePart_ pl (wpAny_bind (slicePart_ pu (wpAny_bind (wpAny_pure ?_)))))
  show wpAny _ _ (match Builtin.Slice.sliceAdjust none none (-1) (n : Int) with | (lo, hi) => pure (lo, (-1 : Int), Builtin.Slice.slicePlaces lo hi (-1))) _ _ s
  rw [adjust_rev n]
  show wpAny _ _ (pure ((n : Int) - 1, (-1 : Int), Builtin.Slice.slicePlaces ((n : Int) - 1) (-1) (-1))) _ _ s
  rw [places_rev]
  exact wpAny_pure h
theorem filterMap_cg {α β : Type} {f g : α → Option β} : ∀ {l : List α}, (∀ a ∈ l, f a = g a) → l.filterMap f = l.filterMap g
  | [], _ => rfl
  | a :: l, h => by
    rw [List.filterMap_cons, List.filterMap_cons, h a List.mem_cons_self, filterMap_cg fun b hb => h b (List.mem_cons_of_mem _ hb)]
theorem filterMap_rev {α : Type} (f : Nat → Option α) : ∀ (l : List α), (∀ i, i < l.length → f i = l[l.length - 1 - i]?) → (List.range l.length).filterMap f = l.reverse := fun l h => by
  have e : (List.range l.length).filterMap f = (List.range l.length).filterMap fun i => l.reverse[i]? := by
    apply filterMap_cg
    intro i hi
    rw [List.mem_range] at hi
    rw [h i hi, List.getElem?_reverse hi]
  rw [e]
  have g : ∀ (m : List α), (List.range m.length).filterMap (fun i => m[i]?) = m := fun m => by
    induction m with
    | nil => rfl
    | cons a m ih =>
      rw [List.length_cons, List.range_succ_eq_map, List.filterMap_cons]
      show a :: _ = _
      rw [List.filterMap_map]
      congr 1
  have := g l.reverse
  rw [List.length_reverse] at this
  exact this
theorem pick_rev (xs : Array Value) : ((List.range xs.size).filterMap fun (k : Nat) => xs[(((xs.size : Int) - 1) + (k : Int) * (-1)).toNat]?).toArray = xs.toList.reverse.toArray := by
  congr 1
  have := filterMap_rev (fun (k : Nat) => xs[(((xs.size : Int) - 1) + (k : Int) * (-1)).toNat]?) xs.toList (fun i hi => by
    rw [Array.length_toList] at hi ⊢
    have e : (((xs.size : Int) - 1) + (i : Int) * (-1)).toNat = xs.size - 1 - i := by omega
    show xs[(((xs.size : Int) - 1) + (i : Int) * (-1)).toNat]? = _
    rw [e, Array.getElem?_toList])
  rw [Array.length_toList] at this
  exact this
theorem getItem_tuple_rev {t sl : Addr} {items : Array Value} {vl vu vs : Value} {Q : Value → Shared → Prop} (ht : IsTup s.heap t items) (hs : s.heap.IsSliceOf sl vl vu vs) (pl : IsPart vl none) (pu : IsPart vu none) (ps : IsPart vs (some (-1)))
    (h : Q (.ref s.heap.objs.size) { s with heap := s.heap.push { cls := .type "tuple", data := .seq items.toList.reverse.toArray } }) (hsz : items.size ≤ sizeLine) : wpAny (model prog w) A (getItem (.ref t) (.ref sl)) Q E s := by
  have htake : sizeOk (.seq items.toList.reverse.toArray) := by
    show items.toList.reverse.toArray.size ≤ sizeLine
    rw [List.size_toArray, List.length_reverse, Array.length_toList]
    exact hsz
  obtain ⟨os, hos, hcs, hds⟩ := id hs
  have hTs : s.TypeIs (.ref sl) "slice" := ⟨os, hos, hcs⟩
  unfold getItem
  try with_reducible refine wpAny_holding ?_
  first | refine wpAny_bind (wpAny_pure ?_) | skip
  refine wpAny_bind (wpAny_sequenceKey ht.typeIs (by decide) ?_)
  refine wpAny_bind (wpAny_callSpecial?_slot (name := Str.ofString "__getitem__") ht.typeIs PyProof.Rows.slot_tuple_getitem
    (wpAny_call_entry PyProof.Rows.slot_tuple_getitem ht.typeIs entry_tuple_getitem ?_ (args_tuple_getitem _ _)))
  show wpAny _ _ (Builtin.Tuple.tupleItemsOf (.ref t) >>= _) _ _ s
  refine wpAny_bind (tupleItemsOf_ ht ?_)
  refine wpAny_bind (wpAny_typeOf hTs ?_)
  rw [if_pos (by decide)]
  refine wpAny_bind (sliceApplied_rev hs pl pu ps ?_)
  have hno : ¬ ((((items.size : Int) - 1) == 0 && (-1 : Int) == 1 && items.size == items.size) = true) := by
    intro q
    rw [Bool.and_eq_true, Bool.and_eq_true] at q
    exact absurd q.1.2 (by decide)
  show wpAny _ _ (if (((items.size : Int) - 1) == 0 && (-1 : Int) == 1 && items.size == items.size) = true then _ else _) _ _ s
  rw [if_neg hno, pick_rev]
  first
    | exact wpAny_bind (m := Builtin.Tuple.tupleExact _) (wpAny_newObj_type (wpAny_pure ⟨_, rfl, wpAny_pure h⟩) htake)
    | exact wpAny_bind (m := Builtin.Tuple.tupleExact _) (wpAny_newObj_type (wpAny_bind (wpAny_pure (wpAny_pure ⟨_, rfl, wpAny_pure h⟩))) htake)
    | exact wpAny_bind (wpAny_bind (m := Builtin.Tuple.tupleExact _) (wpAny_newObj_type (wpAny_pure (wpAny_pure ⟨_, rfl, wpAny_pure h⟩)) htake))
    | exact wpAny_bind (wpAny_bind (m := Builtin.Tuple.tupleExact _) (wpAny_newObj_type (wpAny_pure ⟨_, rfl, wpAny_pure h⟩) htake))
end
/-- t[::-1] -/
def tRevT (K : PySem.W.Frag) (te : TE) : TE := fun σ H Q => te σ H fun x H1 => ∃ a xs, x = .ref a ∧ ((SqL K H1 a xs ∧ ∀ p, H1 p = none → Q (.ref p) (upd H1 p (.lst xs.reverse))) ∨ (SqT K H1 a xs ∧ ∀ p, H1 p = none → Q (.ref p) (upd H1 p (.tup xs.reverse))))
theorem pe_rev {X : Cx} {e : Expr} {te : TE} {pos : Pos} {k : Nat} {p1 p2 p3 : Pos} (he : PE X e te) : PE X (.Subscript e (.Slice none none (some (.UnaryOp .USub (.Constant (.int 1) k p1) p2)) p3) pos) (tRevT X.K te) := by
  refine ⟨fun pins s σ H Q I h => ?_⟩
  refine Subscript_ (thn (he.run pins s σ H _ I h) fun v s1 ⟨x, H1, I1, r1, q1⟩ => ?_)
  obtain ⟨a, xs, ex, q1⟩ := q1
  subst ex
  cases r1
  have hst : PO X (some (.UnaryOp .USub (.Constant (.int 1) k p1) p2)) (tPart (tUn (rU fun i => .int (-i)) (tC (.int 1)))) := po_some (pe_un un_neg pe_int)
  refine wpAny_Slice (thn (po_none.run pins s1 σ H1 (fun o H2 => o = none ∧ H2 = H1) I1 ⟨rfl, rfl⟩) fun vl s2 ⟨l, H2, I2, pl, el, e2⟩ => ?_)
  subst el e2
  refine thn (po_none.run pins s2 σ H2 (fun o H3 => o = none ∧ H3 = H2) I2 ⟨rfl, rfl⟩) fun vu s3 ⟨u, H3, I3, pu, eu, e3⟩ => ?_
  subst eu e3
  refine thn (hst.run pins s3 σ H3 (fun o H4 => o = some (-1) ∧ H4 = H3) I3 ⟨1, rfl, -1, rfl, rfl, rfl⟩) fun vs s4 ⟨o, H4, I4, ps, eo, e4⟩ => ?_
  subst eo e4
  have I5 : Inv X pins σ H4 { s4 with heap := s4.heap.push { cls := .type "slice", data := .fields #[vl, vu, vs] } } := I4.kept (t' := s4.toks) fun b ob q => Heap.get?_push_of_some _ q
  show wpAny (model X.prog X.w) X.A (subscriptTail e (.Slice none none (some (.UnaryOp .USub (.Constant (.int 1) k p1) p2)) p3) (.ref a) (.ref s4.heap.objs.size)) (EP X pins σ Q) X.xe { s4 with heap := s4.heap.push { cls := .type "slice", data := .fields #[vl, vu, vs] } }
  rcases q1 with ⟨hx, q⟩ | ⟨hx, q⟩
  · obtain ⟨its, r, ht, hz⟩ := I5.list hx
    have hlen := r.length
    refine tail_any (ops := [.ref a, .ref s4.heap.objs.size]) ht.isList.typeIs (PySem.slot_list_getitem.lookup) ?_ (by with_unfolding_all rfl)
    refine wpAny_getItem_list_slice ht.isList (Heap.IsSliceOf.new _ vl vu vs) pl pu ps (by decide) ?_ (by rw [List.size_toArray]; omega)
    rw [PySem.W.krv_pick]
    refine ⟨.ref _, _, I5.laid (t' := s4.toks) (o := .lst xs.reverse) (fun b ob q => Heap.get?_push_of_some _ q) (Nat.le_refl _) ?_, rfl, q _ (I5.hok.fresh (Nat.le_refl _))⟩
    exact ⟨by rw [List.length_reverse]; exact hz, _, 0, r.reverse, Heap.get?_push_size _ rfl⟩
  · obtain ⟨its, r, ht, hz⟩ := I5.tuple hx
    have hlen := r.length
    refine tail_any (ops := [.ref a, .ref s4.heap.objs.size]) ht.typeIs (PyProof.Rows.slot_tuple_getitem.lookup) ?_ (by with_unfolding_all rfl)
    refine getItem_tuple_rev ht (Heap.IsSliceOf.new _ vl vu vs) pl pu ps ?_ (by rw [List.size_toArray]; omega)
    refine ⟨.ref _, _, I5.laid (t' := s4.toks) (o := .tup xs.reverse) (fun b ob q => Heap.get?_push_of_some _ q) (Nat.le_refl _) ?_, rfl, q _ (I5.hok.fresh (Nat.le_refl _))⟩
    exact ⟨by rw [List.length_reverse]; exact hz, _, r.reverse, IsTup.new _ _⟩
/-! ### t * k -/
theorem tuple_mul1 (l : Addr) (items : Array Value) (n : Nat) (dd : Option Addr) (sl : Array (Option Value)) (x : Int) (u : Tok) (c0 : (decide (x < -(2 ^ 63)) || decide (x ≥ 2 ^ 63)) = false) (c1 : (items.isEmpty || x == 1) = true) :
    Meets (Builtin.«tuple.__mul__» ⟨[.ref l, .int x u], []⟩) (fun _ R s => s.heap.get? l = some { cls := .type "tuple", dict := dd, data := .seq items n, slots := sl } ∧ R (.ok (.ret (Value.ref l))) s) :=
  .of_wp fun prog w A R s h => by
    obtain ⟨hp, g, d, tk, os⟩ := s
    obtain ⟨hl, h⟩ := h
    have f1 := AutoSeq1.idx_int
    wp_walk using wpAny_loadPart' hl
    repeat (first
      | (refine wpAny_ite_false (decide_eq_false (by rw [c0]; exact Bool.false_ne_true)) ?_; wp_walk using wpAny_loadPart' hl)
      | (refine wpAny_ite_true (decide_eq_true c1) ?_; wp_walk using wpAny_loadPart' hl))
    exact ⟨_, rfl, h⟩
theorem tuple_mul0 (l : Addr) (items : Array Value) (n : Nat) (dd : Option Addr) (sl : Array (Option Value)) (x : Int) (u : Tok) (c0 : (decide (x < -(2 ^ 63)) || decide (x ≥ 2 ^ 63)) = false) (c1 : (items.isEmpty || x == 1) = false) (c2 : (decide (x ≤ 0) || items.isEmpty) = true) :
    Meets (Builtin.«tuple.__mul__» ⟨[.ref l, .int x u], []⟩) (fun _ R s => s.heap.get? l = some { cls := .type "tuple", dict := dd, data := .seq items n, slots := sl } ∧
      R (.ok (.ret (Value.ref s.heap.objs.size))) { s with heap := s.heap.push { cls := Value.type "tuple", data := Data.seq #[] }, toks := s.toks }) :=
  .of_wp fun prog w A R s h => by
    obtain ⟨hp, g, d, tk, os⟩ := s
    obtain ⟨hl, h⟩ := h
    have f1 := AutoSeq1.idx_int
    have hsz : (#[] : Array Value).size ≤ sizeLine := Nat.zero_le _
    wp_walk using wpAny_loadPart' hl
    repeat (first
      | (refine wpAny_ite_false (decide_eq_false (by rw [c0]; exact Bool.false_ne_true)) ?_; wp_walk using wpAny_loadPart' hl)
      | (refine wpAny_ite_false (decide_eq_false (by rw [c1]; exact Bool.false_ne_true)) ?_; wp_walk using wpAny_loadPart' hl)
      | (refine wpAny_ite_true (decide_eq_true c2) ?_; wp_walk using wpAny_loadPart' hl))
    exact ⟨_, rfl, h⟩
def rRepA (K : PySem.W.Frag) : R2 := fun x y H Q => ∃ l k xs, x = .ref l ∧ y = .int k ∧ SqT K H l xs ∧ -(2 ^ 62) ≤ k ∧ k ≤ 1000 ∧ xs.length ≤ 1000 ∧
  (xs = [] ∨ k = 1 → Q (.ref l) H) ∧ (xs ≠ [] → k ≠ 1 → ∀ p, H p = none → Q (.ref p) (upd H p (.tup (List.replicate k.toNat xs).flatten)))
theorem op_repA {X : Cx} : OpR X (binaryOp .Mult) (rRepA X.K) := by
  intro pins s σ H x y v u Q I rx ry h
  obtain ⟨l, k, xs, rfl, rfl, hT, h0, h2, hz, q1, q2⟩ := h
  by_cases c : xs ≠ [] ∧ 2 ≤ k
  · exact op_repT pins s σ H _ _ v u Q I rx ry ⟨l, k, xs, rfl, rfl, hT, c.1, c.2, h2, hz, q2 c.1 (by omega)⟩
  cases rx
  obtain ⟨t, rfl⟩ := ry
  obtain ⟨its, r, ⟨⟨cls, dd, data, sl⟩, ho, hc, n, hd⟩, hs⟩ := I.tuple hT
  simp only at hc hd
  subst hc hd
  have hle : its.length = xs.length := r.length.symm
  have c0 : (decide (k < -(2 ^ 63)) || decide (k ≥ 2 ^ 63)) = false := by
    rw [decide_eq_false (by omega), decide_eq_false (by omega)] <;> rfl
  have em : its.toArray.isEmpty = decide (xs = []) := by
    cases its with
    | nil =>
      have : xs = [] := List.eq_nil_of_length_eq_zero hle.symm
      rw [this] <;> rfl
    | cons a b =>
      have : xs ≠ [] := fun e => by rw [e] at hle; cases hle
      rw [decide_eq_false this] <;> rfl
  have go : ∀ {R : Value → Shared → Prop}, (∀ (g : Meets (Builtin.«tuple.__mul__» ⟨[.ref l, .int k t], []⟩) (fun _ R s => s.heap.get? l = some { cls := .type "tuple", dict := dd, data := .seq its.toArray n, slots := sl } ∧ True)), True) → True := fun _ => trivial
  by_cases c1 : xs = [] ∨ k = 1
  · have e1 : (its.toArray.isEmpty || k == 1) = true := by
      rw [em]
      rcases c1 with e | e
      · rw [decide_eq_true e] <;> rfl
      · rw [e] <;> simp
    refine wpAny_binaryOp_repeat_ref (T := "tuple") (U := "int") (by decide) ⟨_, ho, rfl⟩ (fun s' => typeIs_int s' k t) noFill_tuple_mul F.fills_int_mul F.slot_int_rmul repeat_tuple F.slot_int_index.lookup
      (call_meets F.slot_int_rmul (typeIs_int s k t) F.entry_int_rmul (F.args_int_rmul_2 _ _) (int_rmul_tuple k t l its.toArray n dd sl)
        ⟨ho, rfl, ⟨_, ho, rfl⟩, call_meets F.slot_tuple_mul ⟨_, ho, rfl⟩ F.entry_tuple_mul (F.args_tuple_mul_2 _ _) (tuple_mul1 l its.toArray n dd sl k t c0 e1) ⟨ho, ?_⟩⟩)
    exact ⟨.ref l, H, I, rfl, q1 c1⟩
  · have n1 : xs ≠ [] := fun e => c1 (.inl e)
    have n2 : k ≠ 1 := fun e => c1 (.inr e)
    have e1 : (its.toArray.isEmpty || k == 1) = false := by
      rw [em, decide_eq_false n1, Bool.false_or]
      exact beq_eq_false_iff_ne.mpr n2
    have k0 : k ≤ 0 := by
      have : ¬ 2 ≤ k := fun e => c ⟨n1, e⟩
      omega
    have e2 : (decide (k ≤ 0) || its.toArray.isEmpty) = true := by
      rw [decide_eq_true k0] <;> rfl
    refine wpAny_binaryOp_repeat_ref (T := "tuple") (U := "int") (by decide) ⟨_, ho, rfl⟩ (fun s' => typeIs_int s' k t) noFill_tuple_mul F.fills_int_mul F.slot_int_rmul repeat_tuple F.slot_int_index.lookup
      (call_meets F.slot_int_rmul (typeIs_int s k t) F.entry_int_rmul (F.args_int_rmul_2 _ _) (int_rmul_tuple k t l its.toArray n dd sl)
        ⟨ho, rfl, ⟨_, ho, rfl⟩, call_meets F.slot_tuple_mul ⟨_, ho, rfl⟩ F.entry_tuple_mul (F.args_tuple_mul_2 _ _) (tuple_mul0 l its.toArray n dd sl k t c0 e1 e2) ⟨ho, ?_⟩⟩)
    have ez : (List.replicate k.toNat xs).flatten = [] := by
      have : k.toNat = 0 := by omega
      rw [this] <;> rfl
    have q := q2 n1 n2
    rw [ez] at q
    refine ⟨.ref s.heap.objs.size, _, I.laid (t' := s.toks) (o := .tup []) (fun b ob q => Heap.get?_push_of_some _ q) (Nat.le_refl _) ?_, rfl, q _ (I.hok.fresh (Nat.le_refl _))⟩
    exact ⟨Nat.zero_le _, [], .nil, IsTup.new _ _⟩
end TupX
set_option Elab.async false
set_option linter.all false
set_option maxRecDepth 100000
set_option maxHeartbeats 4000000
/-! Dl6: rules that take any kind of operand; calls by name. -/
namespace Dl
open PySem PySem.Spec PyProof.Rows L2
/-! ### operators whose operands' kinds the reading finds -/
def rStrCat : R2 := fun x y H Q => ∃ i j, x = .str i ∧ y = .str j ∧ i.length + j.length ≤ sizeLine ∧ Q (.str (i ++ j)) H
def rAddA (K : PySem.W.Frag) : R2 := fun x y H Q => (rI0 fun i j => .int (i + j)) x y H Q ∨ rCat x y H Q ∨ rCatA K x y H Q ∨ rStrCat x y H Q
theorem op_addA {X : Cx} : OpR X (binaryOp .Add) (rAddA X.K) := op_add.or (op_cat.or (op_catA.or op_add_str))
def rMulA (K : PySem.W.Frag) : R2 := fun x y H Q => (rI CMul fun i j => .int (i * j)) x y H Q ∨ rRep x y H Q ∨ TupX.rRepA K x y H Q
theorem op_mulA {X : Cx} : OpR X (binaryOp .Mult) (rMulA X.K) := op_mul.or (op_rep.or TupX.op_repA)
def rEqA (K : PySem.W.Frag) : R2 := fun x y H Q => rEq x y H Q ∨ rEqD K x y H Q
theorem op_eqA {X : Cx} (hu : X.A.units + 64 < cLine) : OpR X (compareOp .Eq) (rEqA X.K) := op_eq.or (op_eqD hu)
def rNeA (K : PySem.W.Frag) : R2 := fun x y H Q => rNe x y H Q ∨ rNeD K x y H Q
theorem op_neA {X : Cx} (hu : X.A.units + 64 < cLine) : OpR X (compareOp .NotEq) (rNeA X.K) := op_ne.or (op_neD hu)
def rInA (K : PySem.W.Frag) : R2 := fun x y H Q => rIn K false x y H Q ∨ rInD K x y H Q
theorem op_inA {X : Cx} (hu : X.A.units + 65 < cLine) : OpR X (compareOp .In) (rInA X.K) := op_in_seq.or (op_inD hu)
def rNotInA (K : PySem.W.Frag) : R2 := fun x y H Q => rIn K true x y H Q ∨ rNotInD K x y H Q
theorem op_notInA {X : Cx} (hu : X.A.units + 65 < cLine) : OpR X (compareOp .NotIn) (rNotInA X.K) := op_notIn_seq.or (op_notInD hu)
def rSlG (K : PySem.W.Frag) : V → Option Int → Option Int → Hp → VK → Prop := fun x lo hi H Q => rSlL K x lo hi H Q ∨ rSlA K x lo hi H Q
theorem sl_any {X : Cx} : SlR X (rSlG X.K) := sl_list.or sl_tupA
def iSeq (K : PySem.W.Frag) (tl : TE) : TI := fun σ H R => tl σ H fun x H1 => ∃ a, x = .ref a ∧ (((∃ xs, SqL K H1 a xs) ∧ R (Itl K a) H1) ∨ ((∃ xs, SqT K H1 a xs) ∧ R (Itt K a) H1))
theorem pi_seq {X : Cx} {tg l : Expr} {tl : TE} (hl : PE X l tl) : PI X tg l (iSeq X.K tl) := by
  refine ⟨fun pins s σ H R I h => ?_⟩
  refine thn (hl.run pins s σ H _ I h) fun v s1 ⟨x, H1, I1, r1, q1⟩ => ?_
  obtain ⟨a, e, ⟨⟨xs, hq⟩, q⟩ | ⟨⟨xs, hq⟩, q⟩⟩ := q1
  · subst e
    cases r1
    obtain ⟨its, rv, p, hz⟩ := I1.list hq
    refine wpAny_pyIter_list p.isList ?_
    refine ⟨s1.heap.objs.size, [s1.heap.objs.size], _, _, H1, rfl, I1.kept (t' := s1.toks) fun b o e => Heap.get?_push_of_some _ e, turn_list a _, ⟨_, Heap.get?_push_size _ rfl, rfl, rfl⟩, fun b hb => ?_, q⟩
    have e : b = s1.heap.objs.size := by simpa using hb
    subst e
    exact I1.fpOk (Nat.le_refl _) (I1.hok.fresh (Nat.le_refl _))
  · subst e
    cases r1
    obtain ⟨its, rv, p, hz⟩ := I1.tuple hq
    refine wpAny_pyIter_tuple (show s1.heap.IsTuple a its.toArray from p) ?_
    refine ⟨s1.heap.objs.size, [s1.heap.objs.size], _, _, H1, rfl, I1.kept (t' := s1.toks) fun b o e => Heap.get?_push_of_some _ e, turn_tuple a _, ⟨_, Heap.get?_push_size _ rfl, rfl, rfl⟩, fun b hb => ?_, q⟩
    have e : b = s1.heap.objs.size := by simpa using hb
    subst e
    exact I1.fpOk (Nat.le_refl _) (I1.hok.fresh (Nat.le_refl _))
section
variable {F : Fm} {ks : List Kd} {M : List Addr} {σ : Sg} {H H' : Hp}
theorem OpV.inl {r s : R2} {x y : D} {R : D → Prop} (h : OpV F ks r x y R) : OpV F ks (fun x y H Q => r x y H Q ∨ s x y H Q) x y R := fun M σ H o v w a b Q q => .inl (h M σ H o v w a b Q q)
theorem OpV.inr {r s : R2} {x y : D} {R : D → Prop} (h : OpV F ks s x y R) : OpV F ks (fun x y H Q => r x y H Q ∨ s x y H Q) x y R := fun M σ H o v w a b Q q => .inr (h M σ H o v w a b Q q)
theorem av_int {i j : Int} : OpV F ks (rAddA F.K) (.int i) (.int j) (fun d => d = .int (i + j)) := fun M σ H o v w a b Q q => .inl (opv_I0 M σ H o v w a b Q q)
theorem av_tup {xs ys : List D} (h : xs.length + ys.length ≤ sizeLine) : OpV F ks (rAddA F.K) (.tup xs) (.tup ys) (fun d => d = .tup (xs ++ ys)) := fun M σ H o v w a b Q q => .inr (.inr (.inl (opv_catA h M σ H o v w a b Q q)))
theorem av_str {i j : Str} (h : i.length + j.length ≤ sizeLine) : OpV F ks (rAddA F.K) (.str i) (.str j) (fun d => d = .str (i ++ j)) := fun M σ H o v w a b Q q => .inr (.inr (.inr (by
  cases a; cases b
  exact ⟨i, j, rfl, rfl, h, q _ _ H o .refl (.str _) rfl⟩)))
theorem av_lst {xs ys : List D} (h : xs.length + ys.length ≤ sizeLine) : OpVL F ks (rAddA F.K) (.lst xs) (.lst ys) (fun d => d = xs ++ ys) := fun M σ H o v w a b Q q => .inr (.inl (opv_catL h M σ H o v w a b Q q))
theorem mv_int {i j : Int} (h : CMul i j) : OpV F ks (rMulA F.K) (.int i) (.int j) (fun d => d = .int (i * j)) := fun M σ H o v w a b Q q => .inl (opv_I h M σ H o v w a b Q q)
theorem mv_rep1 {d : D} {k : Int} (h0 : -(2 ^ 62) ≤ k) (h1 : k ≤ 1000000) : OpVL F ks (rMulA F.K) (.lst [d]) (.int k) (fun x => x = List.replicate k.toNat d) := fun M σ H o v w a b Q q => .inr (.inl (opv_rep1 h0 h1 M σ H o v w a b Q q))
theorem mv_repT {d : D} {k : Int} (h0 : -(2 ^ 62) ≤ k) (h1 : k ≤ 1000) : OpV F ks (rMulA F.K) (.tup [d]) (.int k) (fun x => x = .tup (List.replicate k.toNat d)) := fun M σ H o v w a b Q q => .inr (.inr (by
  cases b
  cases a with
  | tup hl hs =>
    have hs' := hs
    cases hs with
    | cons ha hn =>
      cases hn
      rename_i p u
      refine ⟨p, k, [u], rfl, rfl, same_t hid_same hl, h0, h1, by show 1 ≤ 1000; decide, fun c => ?_, fun _ _ t n => ?_⟩
      · rcases c with c | c
        · cases c
        · subst c
          exact q _ _ H o .refl (.tup hl hs') rfl
      · rw [flat1]
        obtain ⟨o2, s2, a2⟩ := tup_new o (Ats.rep ha k.toNat) n
        exact q _ _ _ o2 s2 a2 rfl))
theorem eqv_ints (i j : Int) : PyData.eqv (py (.int i)) (py (.int j)) = decide (i = j) := by
  simp only [py, PyData.eqv]
  by_cases h : i = j
  · simp [h]
  · simp [h]
theorem qv_int {i j : Int} : OpV F ks (rEqA F.K) (.int i) (.int j) (fun d => d = .bl (decide (i = j))) := fun M σ H o v w a b Q q => .inl (opv_eqI M σ H o v w a b Q q)
theorem qv_bl {i j : Bool} : OpV F ks (rEqA F.K) (.bl i) (.bl j) (fun d => d = .bl (i == j)) := fun M σ H o v w a b Q q => .inl (opv_eqB M σ H o v w a b Q q)
theorem qv_dat {x y : D} (hx : okD x = true) (hy : okD y = true) : OpV F ks (rEqA F.K) x y (fun d => d = .bl (PyData.eqv (py x) (py y))) := fun M σ H o v w a b Q q => .inr (opv_eqD hx hy M σ H o v w a b Q q)
theorem nv_int {i j : Int} : OpV F ks (rNeA F.K) (.int i) (.int j) (fun d => d = .bl (!decide (i = j))) := fun M σ H o v w a b Q q => .inl (opv_neI M σ H o v w a b Q q)
theorem nv_dat {x y : D} (hx : okD x = true) (hy : okD y = true) : OpV F ks (rNeA F.K) x y (fun d => d = .bl (!PyData.eqv (py x) (py y))) := fun M σ H o v w a b Q q => .inr (opv_neD hx hy M σ H o v w a b Q q)
theorem iv_ints {i : Int} {y : D} {ns : List Int} (hy : y = .lst (ns.map D.int) ∨ y = .tup (ns.map D.int)) : OpV F ks (rInA F.K) (.int i) y (fun d => d = .bl (decide (i ∈ ns))) := fun M σ H o v w a b Q q => .inl (opv_inI hy M σ H o v w a b Q q)
theorem niv_ints {i : Int} {y : D} {ns : List Int} (hy : y = .lst (ns.map D.int) ∨ y = .tup (ns.map D.int)) : OpV F ks (rNotInA F.K) (.int i) y (fun d => d = .bl (!decide (i ∈ ns))) := fun M σ H o v w a b Q q => .inl (opv_notInI hy M σ H o v w a b Q q)
theorem iv_dat {x : D} {ys : List D} (hx : okD x = true) (hy : okD (.lst ys) = true) : OpV F ks (rInA F.K) x (.lst ys) (fun d => d = .bl (ys.any fun z => PyData.eqv (py z) (py x))) := fun M σ H o v w a b Q q => .inr (opv_inD hx hy M σ H o v w a b Q q)
theorem niv_dat {x : D} {ys : List D} (hx : okD x = true) (hy : okD (.lst ys) = true) : OpV F ks (rNotInA F.K) x (.lst ys) (fun d => d = .bl (!ys.any fun z => PyData.eqv (py z) (py x))) := fun M σ H o v w a b Q q => .inr (opv_notInD hx hy M σ H o v w a b Q q)
theorem el_sl {te : TE} {tl th : TO} {ds : List D} {lo hi : Option Int} (h : Ev F ks te (.lst ds)) (h1 : EvO F ks tl lo) (h2 : EvO F ks th hi) : EvL F ks (tSl (rSlG F.K) te tl th) (cutG ds lo hi) := fun M σ H o Q q =>
  h M σ H o _ fun v d H1 o1 s1 a1 e => h1 M σ H1 o1 _ fun H2 o2 s2 => h2 M σ H2 o2 _ fun H3 o3 s3 => by
    subst e
    have a3 := (a1.mono (o1.hidStep s2)).mono (o2.hidStep s3)
    cases a3 with
    | lst hl hs =>
      refine .inl ⟨_, _, rfl, .inl (.inl (hid_same _ _ hl)), fun p n => ?_⟩
      obtain ⟨o4, s4, l4, a4⟩ := lst_new o3 (Ats.cut (lo := lo) (hi := hi) hs) n
      refine q _ _ _ _ ?_ o4 (((s1.trans s2).trans s3).trans s4) l4 a4 rfl
      cases e : H p with
      | none => rfl
      | some u =>
        rw [((s1.trans s2).trans s3) _ _ e (o3.noOwn n)] at n
        cases n
theorem el_slS' {te : TE} {tl th : TO} {ds : List D} {lo hi : Option Int} (h : Ev F ks te (.sls ds)) (h1 : EvO F ks tl lo) (h2 : EvO F ks th hi) : EvL F ks (tSl (rSlG F.K) te tl th) (cutG ds lo hi) := fun M σ H o Q q =>
  h M σ H o _ fun v d H1 o1 s1 a1 e => h1 M σ H1 o1 _ fun H2 o2 s2 => h2 M σ H2 o2 _ fun H3 o3 s3 => by
    subst e
    have a3 := (a1.mono (o1.hidStep s2)).mono (o2.hidStep s3)
    cases a3 with
    | sls hl hs =>
      refine .inl ⟨_, _, rfl, same_l hid_same hl, fun p n => ?_⟩
      obtain ⟨o4, s4, l4, a4⟩ := lst_new o3 (Ats.cut (lo := lo) (hi := hi) hs) n
      refine q _ _ _ _ ?_ o4 (((s1.trans s2).trans s3).trans s4) l4 a4 rfl
      cases e : H p with
      | none => rfl
      | some u =>
        rw [((s1.trans s2).trans s3) _ _ e (o3.noOwn n)] at n
        cases n
theorem ev_sl {te : TE} {tl th : TO} {ds : List D} {lo hi : Option Int} (h : Ev F ks te (.tup ds)) (h1 : EvO F ks tl lo) (h2 : EvO F ks th hi) : Ev F ks (tSl (rSlG F.K) te tl th) (.tup (cutG ds lo hi)) := fun M σ H o Q q =>
  h M σ H o _ fun v d H1 o1 s1 a1 e => h1 M σ H1 o1 _ fun H2 o2 s2 => h2 M σ H2 o2 _ fun H3 o3 s3 => by
    subst e
    have a3 := (a1.mono (o1.hidStep s2)).mono (o2.hidStep s3)
    have a3' := a3
    cases a3 with
    | tup hl hs =>
      refine .inr ⟨_, _, rfl, same_t hid_same hl, fun w => ?_, fun _ p n => ?_⟩
      · refine q _ _ H3 o3 ((s1.trans s2).trans s3) a3' ?_
        unfold cutG
        rw [hs.length] at w
        rw [w.1, w.2, List.drop_zero, Nat.sub_zero, List.take_length]
      · obtain ⟨o4, s4, a4⟩ := tup_new o3 (Ats.cut (lo := lo) (hi := hi) hs) n
        exact q _ _ _ o4 (((s1.trans s2).trans s3).trans s4) a4 rfl
/-- t[::-1] -/
theorem ev_rev {te : TE} {ds : List D} (h : Ev F ks te (.tup ds)) : Ev F ks (TupX.tRevT F.K te) (.tup ds.reverse) := fun M σ H o Q q =>
  h M σ H o _ fun v d H1 o1 s1 a1 e => by
    subst e
    cases a1 with
    | tup hl hs =>
      refine ⟨_, _, rfl, .inr ⟨same_t hid_same hl, fun p n => ?_⟩⟩
      obtain ⟨o4, s4, a4⟩ := tup_new o1 hs.reverse n
      exact q _ _ _ o4 (s1.trans s4) a4 rfl
theorem ei_seqR {te : TE} {RI : List D → Prop} (h : EvR F ks te (fun d => ∃ ds, RI ds ∧ (d = .lst ds ∨ d = .tup ds))) : EvIR F ks (iSeq F.K te) RI := fun M σ H o R q => h M σ H o _ fun v d H1 o1 s1 a1 ⟨ds, r1, e⟩ => by
  rcases e with e | e
  · subst e
    cases a1 with
    | lst hl hs => exact ⟨_, rfl, .inl ⟨⟨_, .inl (.inl (hid_same _ _ hl))⟩, q _ _ ds H1 o1 s1 r1 (itl_ok rfl) ⟨_, .inl (.inl hl), hs⟩⟩⟩
  · subst e
    cases a1 with
    | tup hl hs => exact ⟨_, rfl, .inr ⟨⟨_, same_t hid_same hl⟩, q _ _ ds H1 o1 s1 r1 (itt_ok rfl) ⟨_, hl, hs⟩⟩⟩
theorem ei_seq {te : TE} {x : D} {ds : List D} (h : Ev F ks te x) (hx : x = .lst ds ∨ x = .tup ds) : EvI F ks (iSeq F.K te) ds := ei_seqR (h.imp fun d e => ⟨ds, rfl, by rw [e]; exact hx⟩)
theorem ei_seqL {te : TE} {ds : List D} (h : Ev F ks te (.lst ds)) : EvI F ks (iSeq F.K te) ds := ei_seq h (.inl rfl)
theorem ei_seqT {te : TE} {ds : List D} (h : Ev F ks te (.tup ds)) : EvI F ks (iSeq F.K te) ds := ei_seq h (.inr rfl)
theorem ei_seqN {te : TE} {ds : List D} (h : EvL F ks te ds) : EvI F ks (iSeq F.K te) ds := ei_seqL (ev_lst h)
theorem ei_seqS {te : TE} {ds : List D} (h : Ev F ks te (.sls ds)) : EvI F ks (iSeq F.K te) ds := fun M σ H o R q => h M σ H o _ fun v d H1 o1 s1 a1 e => by
  subst e
  cases a1 with
  | sls hl hs => exact ⟨_, rfl, .inl ⟨⟨_, same_l hid_same hl⟩, q _ _ ds H1 o1 s1 rfl (itl_ok rfl) ⟨_, hl, hs⟩⟩⟩
/-- xs[j], t[j] -/
theorem ev_ix {ta tb : TE} {x : D} {ds : List D} {i : Int} {d : D} (ha : Ev F ks ta x) (hb : Ev F ks tb (.int i)) (hx : x = .lst ds ∨ x = .tup ds) (h : atI ds i = some d) : Ev F ks (tOp (rIx F.K) ta tb) d := ev_op ha hb (opv_ix hx h)
theorem ev_ixT {ta tb : TE} {ds : List D} {i : Int} {d : D} (ha : Ev F ks ta (.tup ds)) (hb : Ev F ks tb (.int i)) (h : atI ds i = some d) : Ev F ks (tOp (rIx F.K) ta tb) d := ev_ix ha hb (.inr rfl) h
theorem ev_ixL {ta tb : TE} {ds : List D} {i : Int} {d : D} (ha : Ev F ks ta (.lst ds)) (hb : Ev F ks tb (.int i)) (h : atI ds i = some d) : Ev F ks (tOp (rIx F.K) ta tb) d := ev_ix ha hb (.inl rfl) h
theorem ev_ixM {i : Nat} {k : Kd} {tj : TE} {j : Int} {R : D → Prop} (hk : ks[i]? = some k) (hm : isM k = true) (h : Ev F ks tj (.int j)) (hj : ∀ ds, wishK k ds → ∃ d, atI ds j = some d ∧ R d) : EvR F ks (tOp (rIx F.K) (tVar i) tj) R := fun M σ H o Q q => by
  have h0 := ev_ixO hk hm h hj M σ H o Q q
  obtain ⟨v, e, h1⟩ := h0
  exact ⟨v, e, (h M σ H o (fun y H2 => rIxL F.K v y H2 Q → rIx F.K v y H2 Q) fun v d H' _ _ _ _ z => .inl z) |> fun z => by
    obtain ⟨p, g1, g2, g3, vs, ds, g4, g5, g6⟩ := o.wish hk hm
    rw [e] at g1
    cases g1
    refine h M σ H o _ fun v d H1 o1 s1 a1 e1 => ?_
    subst e1
    cases a1
    obtain ⟨p', h1', h2, h3, vs, ds, h4, h5, h6⟩ := o1.wish hk hm
    rw [e] at h1'
    cases h1'
    obtain ⟨d, g1, g2⟩ := hj ds h6
    have e : ∃ u, atI vs j = some u ∧ At F.K (hid M H1) u d := by
      unfold atI at g1 ⊢
      rw [h5.length]
      cases z : ixN ds.length j with
      | none => rw [z] at g1; cases g1
      | some m =>
        rw [z] at g1
        exact h5.get g1
    obtain ⟨u, e1, e2⟩ := e
    exact .inl ⟨_, vs, j, u, rfl, rfl, .inl (.inl h4), e1, q _ _ H1 o1 s1 e2 g2⟩⟩
end
/-! ### a def by its name -/
/-- the def x keeps sp -/
def Df (P : Program) (w : World) (K : PySem.W.Frag) (mg : Str → Option Value) (base : Heap) (x : Str) (k : Nat) (ps : List Str) (sp : Sp) : Prop :=
  ∃ f fd, FnOk P w K mg base (L2.CX P w) k f fd ps sp ∧ mg x = some (.ref f) ∧ PySem.W.keepIn K (.ref f) = true ∧ Binds K fd ps []
theorem pe_callD {X : Cx} {k : Nat} {ps : List Str} {sp : Sp} {x : Str} {p pos : Pos} {e : Expr} {es : List Expr} {t : TA} (h : Df X.prog X.w X.K X.mg X.base x k ps sp) (hr : Room k X.A) (hg : Gl X x) (ha : PA X (e :: es) t) (hdb : (x == ("__debug__" : Str)) = false := by decide)
    (he : starEach (e :: es) X.env = (false, eval e X.env) :: starEach es X.env := by rfl) (hpl : (backTo pos (starEach es X.env)).any (·.1) = false := by rfl) : PE X (.Call (.Name x p) (e :: es) [] pos) (tCall sp [] E0 t) := by
  obtain ⟨f, fd, G, hm, hk, hb⟩ := h
  exact pe_call G hr hg hm hk hb .nil passL ha hdb he hpl
theorem pe_callD0 {X : Cx} {k : Nat} {ps : List Str} {sp : Sp} {x : Str} {p pos : Pos} (h : Df X.prog X.w X.K X.mg X.base x k ps sp) (hr : Room k X.A) (hg : Gl X x) (hdb : (x == ("__debug__" : Str)) = false := by decide) : PE X (.Call (.Name x p) [] [] pos) (tCall sp [] E0 tNil) := by
  obtain ⟨f, fd, G, hm, hk, hb⟩ := h
  exact pe_call0 G hr hg hm hk hb .nil passL hdb
theorem pw_and1' {X : Cx} {e : Expr} {t : TT} (h : PT X e t) : True := trivial
end Dl
set_option Elab.async false
set_option linter.all false
set_option maxRecDepth 100000
set_option maxHeartbeats 4000000
/-! Dl7: the rules with the written part told; short words for the scripts. -/
namespace Dl
open PySem PySem.Spec PyProof.Rows L2
section
variable {X : Cx} (K : PySem.W.Frag) {a b c e l : Expr} {ta tb tc te tl : TE} {pos p p2 : Pos}
theorem pe_addK (ha : PE X a ta) (hb : PE X b tb) (hK : X.K = K := by rfl) : PE X (.BinOp a .Add b pos) (tOp (rAddA K) ta tb) := by subst hK; exact pe_op op_addA ha hb
theorem pe_mulK (ha : PE X a ta) (hb : PE X b tb) (hK : X.K = K := by rfl) : PE X (.BinOp a .Mult b pos) (tOp (rMulA K) ta tb) := by subst hK; exact pe_op op_mulA ha hb
theorem pe_ixK (ha : PE X a ta) (hb : PE X b tb) (hs : PlainIx b) (hK : X.K = K := by rfl) : PE X (.Subscript a b pos) (tOp (rIx K) ta tb) := by subst hK; exact pe_ix ix_seq ha hb hs
theorem op_eqK (hu : X.A.units + 64 < cLine) (hK : X.K = K := by rfl) : OpR X (compareOp .Eq) (rEqA K) := by subst hK; exact op_eqA hu
theorem op_neK (hu : X.A.units + 64 < cLine) (hK : X.K = K := by rfl) : OpR X (compareOp .NotEq) (rNeA K) := by subst hK; exact op_neA hu
theorem op_inK (hu : X.A.units + 65 < cLine) (hK : X.K = K := by rfl) : OpR X (compareOp .In) (rInA K) := by subst hK; exact op_inA hu
theorem op_notInK (hu : X.A.units + 65 < cLine) (hK : X.K = K := by rfl) : OpR X (compareOp .NotIn) (rNotInA K) := by subst hK; exact op_notInA hu
theorem pe_sliceK {lo hi : Option Expr} {t1 t2 : TO} (he : PE X e te) (hl : PO X lo t1) (hu : PO X hi t2) (hK : X.K = K := by rfl) : PE X (.Subscript e (.Slice lo hi none p2) pos) (tSl (rSlG K) te t1 t2) := by subst hK; exact pe_slice sl_any he hl hu
theorem pe_revK {k : Nat} {p1 p3 : Pos} (he : PE X e te) (hK : X.K = K := by rfl) : PE X (.Subscript e (.Slice none none (some (.UnaryOp .USub (.Constant (.int 1) k p1) p2)) p3) pos) (TupX.tRevT K te) := by subst hK; exact TupX.pe_rev he
theorem pi_seqK {tg : Expr} (hl : PE X l tl) (hK : X.K = K := by rfl) : PI X tg l (iSeq K tl) := by subst hK; exact pi_seq hl
theorem pi_zipK {e2 : Expr} {ta : TA} {tpos : Pos} {elts : List Expr} {kk : Nat} (hg : Gl X "zip") (hm : X.mg "zip" = none) (ha : PA X [e, e2] ta) (hK : X.K = K := by rfl)
    (hs : starEach [e, e2] X.env = (false, eval e X.env) :: starEach [e2] X.env := by rfl) (hpl : (backTo pos (starEach [e2] X.env)).any (·.1) = false := by rfl) :
    PI X (.Tuple elts kk tpos) (.Call (.Name "zip" p) [e, e2] [] pos) (RZ.iZipA K ta) := by subst hK; exact RZ.pi_zipA hg hm ha hs hpl
abbrev rLenK (K : PySem.W.Frag) : List V → Hp → VK → Prop := fun xs H Q => ∃ x n, xs = [x] ∧ LenV K x H n ∧ Q (.int n) H
theorem call_lenK (hK : X.K = K := by rfl) : CallR X (.builtin "len") (rLenK K) := by subst hK; exact call_len
theorem call_tupleK (hK : X.K = K := by rfl) : CallR X (.type "tuple") (rTupOf K) := by subst hK; exact call_tuple_of
theorem call_listK (hK : X.K = K := by rfl) : CallR X (.type "list") (rLstOf K) := by subst hK; exact call_list_of
theorem cr_sumK (hc : X.calm = true) (hK : X.K = K := by rfl) : CallR X (.builtin "sum") (rSum K) := by subst hK; exact cr_sum hc
theorem cr_minK' (hc : X.calm = true) (hK : X.K = K := by rfl) : CallR X (.builtin "min") (rMin K) := by subst hK; exact cr_min hc
theorem call_isiK' (hK : X.K = K := by rfl) : CallR X (.builtin "isinstance") (rIsi K) := by subst hK; exact call_isi
theorem call_isiTK (hK : X.K = K := by rfl) : CallR X (.builtin "isinstance") (rIsiT K) := by subst hK; exact call_isiT
abbrev rInt1 : List V → Hp → VK → Prop := fun xs H Q => (∃ i, xs = [.int i] ∧ Q (.int i) H) ∨ ∃ k, xs = [.bl k] ∧ Q (.int (if k then 1 else 0)) H
abbrev rAbs : List V → Hp → VK → Prop := fun xs H Q => ∃ i, xs = [.int i] ∧ Q (.int (if i < 0 then -i else i)) H
abbrev rMin2 : List V → Hp → VK → Prop := fun xs H Q => ∃ i j, xs = [.int i, .int j] ∧ Q (.int (if j < i then j else i)) H
end
section
variable {F : Fm} {ks : List Kd}
theorem cav_int {i : Int} : CaV F ks rInt1 [.int i] (fun d => d = .int i) := fun M σ H o vs a Q q => by
  have e := Ats.ints (ns := [i]) a
  subst e
  exact .inl ⟨i, rfl, q _ _ H o .refl (.int _) rfl⟩
theorem cav_intB {b : Bool} : CaV F ks rInt1 [.bl b] (fun d => d = .int (if b then 1 else 0)) := fun M σ H o vs a Q q => by
  cases a with
  | cons a1 a2 =>
    cases a2
    cases a1
    exact .inr ⟨b, rfl, q _ _ H o .refl (.int _) rfl⟩
theorem cav_abs {i : Int} : CaV F ks rAbs [.int i] (fun d => d = .int (if i < 0 then -i else i)) := fun M σ H o vs a Q q => by
  have e := Ats.ints (ns := [i]) a
  subst e
  exact ⟨i, rfl, q _ _ H o .refl (.int _) rfl⟩
theorem cav_min2 {i j : Int} : CaV F ks rMin2 [.int i, .int j] (fun d => d = .int (if j < i then j else i)) := fun M σ H o vs a Q q => by
  have e := Ats.ints (ns := [i, j]) a
  subst e
  exact ⟨i, j, rfl, q _ _ H o .refl (.int _) rfl⟩
end
/-- a row of numbers -/
abbrev rw (v : List Int) : D := .tup (v.map D.int)
abbrev rws (l : List (List Int)) : List D := l.map rw
theorem Room.units65 {k : Nat} {A : Around} (r : L2.Room k A) : A.units + 65 < cLine := by have := r.un; omega
theorem at_nat {α : Type} {xs : List α} {j : Nat} (h : j < xs.length) : atI xs (j : Int) = some xs[j] := atI_nat (List.getElem?_eq_getElem h)
theorem at_map {α β : Type} {f : α → β} {xs : List α} {j : Nat} (h : j < xs.length) : atI (xs.map f) (j : Int) = some (f xs[j]) := atI_nat (by rw [List.getElem?_map, List.getElem?_eq_getElem h]; rfl)
theorem cm_r {i j : Int} (h : -(2 ^ 64) < j ∧ j < 2 ^ 64) : CMul i j := .inr h
theorem cm_l {i j : Int} (h : -(2 ^ 64) < i ∧ i < 2 ^ 64) : CMul i j := .inl h
theorem sz {n : Nat} (h : n ≤ 10000000) : n ≤ sizeLine := Nat.le_trans h (by decide)
theorem szl {n : Nat} (h : n ≤ 10000000) : n < sizeLine := Nat.lt_of_le_of_lt h (by decide)
theorem rw_map {α : Type} (f : α → Int) (xs : List α) : D.tup (xs.map fun x => .int (f x)) = rw (xs.map f) := by
  show _ = D.tup _
  rw [List.map_map]
  rfl
theorem at_getD {α β : Type} {f : α → β} {xs : List α} {j : Nat} (d : α) (h : j < xs.length) : atI (xs.map f) (j : Int) = some (f (xs.getD j d)) := by
  rw [at_map h, List.getD_eq_getElem?_getD, List.getElem?_eq_getElem h]
  rfl
theorem map_erase {α β : Type} (f : α → β) : ∀ (l : List α) (i : Nat), (l.map f).eraseIdx i = (l.eraseIdx i).map f
  | [], _ => rfl
  | _ :: _, 0 => rfl
  | a :: l, i + 1 => by
    rw [List.map_cons, List.eraseIdx_cons_succ, List.eraseIdx_cons_succ, List.map_cons, map_erase f l i]
theorem KsLe.rfl' (ks : List Kd) : KsLe ks ks := ⟨rfl, fun i k k' h1 h2 => by
  rw [h1] at h2
  cases h2
  exact KLe.refl k⟩
theorem ksle_nil : KsLe [] [] := KsLe.rfl' []
theorem ksle_cons {k k' : Kd} {ks ks' : List Kd} (h : KLe k k') (t : KsLe ks ks') : KsLe (k :: ks) (k' :: ks') := ⟨by rw [List.length_cons, List.length_cons, t.1], fun i a b h1 h2 => by
  cases i with
  | zero =>
    cases h1; cases h2
    exact h
  | succ i =>
    rw [List.getElem?_cons_succ] at h1 h2
    exact t.2 i a b h1 h2⟩
theorem ksle_set {ks ks' : List Kd} {i : Nat} {k k' : Kd} (h : KsLe ks ks') (hk : KLe k k') : KsLe (ks.set i k) (ks'.set i k') := ⟨by rw [List.length_set, List.length_set, h.1], fun j a b h1 h2 => by
  rcases getK h1 with ⟨e, _, z1⟩ | ⟨n, z1⟩
  · rcases getK h2 with ⟨_, _, z2⟩ | ⟨n2, _⟩
    · subst z1; subst z2
      exact hk
    · exact absurd e n2
  · rcases getK h2 with ⟨e, _, _⟩ | ⟨_, z2⟩
    · exact absurd e n
    · exact h.2 j a b z1 z2⟩
theorem cont_nxw {F : Fm} {ks ks' : List Kd} {I : List Kd → Prop} (w : KsLe ks ks') (h : I ks') : Cont F ks (Nx F I) := fun M σ H o => ⟨ks', M, h, o.weak w⟩
/-! a statement and the rest -/
section
variable {F : Fm} {ks : List Kd} {E : Ends} {u : TS}
theorem rs_asgR {te : TE} {i : Nat} {R : D → Prop} (h : EvR F ks te R) (c : ∀ d, R d → Run F (ks.set i (.dat d)) u E) : Run F ks (tSeq (tAsg te (gName i)) u) E := run_asgR (E := { E with nx := u E }) h c
theorem rs_asg {te : TE} {i : Nat} {d : D} (h : Ev F ks te d) (c : Run F (ks.set i (.dat d)) u E) : Run F ks (tSeq (tAsg te (gName i)) u) E := run_asg (E := { E with nx := u E }) h c
theorem rs_asgLR {te : TE} {i : Nat} {R : List D → Prop} (h : EvLR F ks te R) (c : Run F (ks.set i (.own R)) u E) : Run F ks (tSeq (tAsg te (gName i)) u) E := run_asgLR (E := { E with nx := u E }) h c
theorem rs_asgL {te : TE} {i : Nat} {ds : List D} (h : EvL F ks te ds) (c : Run F (ks.set i (.own fun x => x = ds)) u E) : Run F ks (tSeq (tAsg te (gName i)) u) E := run_asgL (E := { E with nx := u E }) h c
theorem rs_asgG {te : TE} {g : TG} {d : D} {ks' : List Kd} (h : Ev F ks te d) (hg : GB F g ks d ks') (c : Run F ks' u E) : Run F ks (tSeq (tAsg te g) u) E := run_asgG (E := { E with nx := u E }) h hg c
theorem rs_drop {te : TE} {R : D → Prop} (h : EvR F ks te R) (c : Run F ks u E) : Run F ks (tSeq (tDrop te) u) E := run_drop (E := { E with nx := u E }) h c
/-- if t: .., no else, the branch falls through or not -/
theorem rs_ifR {tt : TT} {t : TS} {R : Bool → Prop} (h : EvTR F ks tt R) (h1 : R true → Run F ks t { E with nx := u E }) (h2 : R false → Run F ks u E) : Run F ks (tSeq (tIfS tt t tNext) u) E := run_ifR (E := { E with nx := u E }) h h1 h2
theorem rs_if {tt : TT} {t : TS} {b : Bool} (h : EvT F ks tt b) (h1 : b = true → Run F ks t { E with nx := u E }) (h2 : b = false → Run F ks u E) : Run F ks (tSeq (tIfS tt t tNext) u) E := run_if (E := { E with nx := u E }) h h1 h2
theorem rs_ifE {tt : TT} {t t2 : TS} {b : Bool} (h : EvT F ks tt b) (h1 : b = true → Run F ks t { E with nx := u E }) (h2 : b = false → Run F ks t2 { E with nx := u E }) : Run F ks (tSeq (tIfS tt t t2) u) E := run_if (E := { E with nx := u E }) h h1 h2
theorem rs_app {te : TE} {i : Nat} {ds : List D} {d : D} (hk : ks[i]? = some (.own fun x => x = ds)) (h : Ev F ks te d) (hz : ds.length < sizeLine) (c : Run F (ks.set i (.own fun x => x = ds ++ [d])) u E) : Run F ks (tSeq (tDrop (tBM F.K "list" rAppend (tVar i) (tCons te tNil))) u) E := run_app (E := { E with nx := u E }) hk h hz c
theorem rs_set {te ti : TE} {i m : Nat} {ds : List D} {d : D} {j : Int} (hk : ks[i]? = some (.own fun x => x = ds)) (h : Ev F ks te d) (hi : Ev F ks ti (.int j)) (hz : ixN ds.length j = some m) (c : Run F (ks.set i (.own fun x => x = ds.set m d)) u E) : Run F ks (tSeq (tAsg te (gSub (tVar i) ti rSetL)) u) E := run_set (E := { E with nx := u E }) hk h hi hz c
theorem rs_pop {ti : TE} {i x m : Nat} {ds : List D} {d : D} {j : Int} (hk : ks[i]? = some (.own fun x => x = ds)) (hi : Ev F ks ti (.int j)) (hj : j = (m : Int)) (hm : m < 2 ^ 62) (hd : ds[m]? = some d) (c : Run F ((ks.set i (.own fun x => x = ds.eraseIdx m)).set x (.dat d)) u E) :
    Run F ks (tSeq (tAsg (tBM F.K "list" rPopAt (tVar i) (tCons ti tNil)) (gName x)) u) E := run_pop (E := { E with nx := u E }) hk hi hj hm hd c
theorem rs_freeze (i : Nat) {ds : List D} {t : TS} (h : ks[i]? = some (.own fun x => x = ds)) (c : Run F (ks.set i (.dat (.lst ds))) t E) : Run F ks t E := cont_freeze i h c
theorem rs_weak {ks' : List Kd} {t : TS} (h : Run F ks' t E) (w : KsLe ks ks') : Run F ks t E := Cont.weak h w
theorem rs_forR {wi : TI} {g : TG} {tb : TS} {RI : List D → Prop} (hi : EvIR F ks wi RI) (I : List D → Nat → List Kd → Prop) (h0 : ∀ items, RI items → I items 0 ks)
    (hs : ∀ items i d ks', RI items → items[i]? = some d → I items i ks' → ∀ B G, Sub F B G → ∃ ks'', GB { F with B := B, G := G } g ks' d ks'' ∧
      Run { F with B := B, G := G } ks'' tb { E with nx := Nx { F with B := B, G := G } (I items (i + 1)), ct := Nx { F with B := B, G := G } (I items (i + 1)), bk := u E })
    (hd : ∀ items ks', RI items → I items items.length ks' → Run F ks' u E) : Run F ks (tSeq (tFor wi g tb) u) E := run_forR (E := { E with nx := u E }) hi I h0 hs hd
theorem rs_for {wi : TI} {g : TG} {tb : TS} {items : List D} (hi : EvI F ks wi items) (K : Nat → List Kd) (h0 : KsLe ks (K 0))
    (hs : ∀ i d, items[i]? = some d → ∀ B G, Sub F B G → ∃ ks'', GB { F with B := B, G := G } g (K i) d ks'' ∧
      Run { F with B := B, G := G } ks'' tb { E with nx := Nx { F with B := B, G := G } (fun x => x = K (i + 1)), ct := Nx { F with B := B, G := G } (fun x => x = K (i + 1)), bk := u E })
    (hd : Run F (K items.length) u E) : Run F ks (tSeq (tFor wi g tb) u) E := run_for (E := { E with nx := u E }) hi K h0 hs hd
theorem rs_while {c : TT} {tb : TS} (I : Nat → List Kd → Prop) (n0 : Nat) (h0 : I n0 ks) (b : List Kd → Bool) (ht : ∀ n ks', I n ks' → EvT F ks' c (b ks'))
    (hs : ∀ n ks', I n ks' → b ks' = true → Run F ks' tb { E with nx := Nx F (fun k => ∃ m, m < n ∧ I m k), ct := Nx F (fun k => ∃ m, m < n ∧ I m k), bk := u E })
    (hd : ∀ n ks', I n ks' → b ks' = false → Run F ks' u E) : Run F ks (tSeq (tWhile c tb) u) E := run_while (E := { E with nx := u E }) I n0 h0 b ht hs hd
/-- the loop's context again at the turn's end -/
theorem cont_nx1 {ks' : List Kd} (w : KsLe ks ks') : Cont F ks (Nx F (fun x => x = ks')) := cont_nxw w rfl
end
section
variable {K : PySem.W.Frag} {H : Hp} {M : List Addr} {N : List Str}
/-- into the body, the promise's data at hand -/
theorem inP {vs : List V} {ds : List D} {t : TS} {E : Ends} (h : Ats K (hid M H) vs ds) (lv : ∀ a ∈ M, ∃ o, H a = some o) (ks : List Kd) (r : Run ⟨K, H, hid M H, M⟩ ks t E) (e : ks = kin ds (N.length - ds.length) := by rfl) (hl : Nat.ble ds.length N.length = true := by rfl) : t E (L2.start N vs) H :=
  enterP h lv ks e (Nat.le_of_ble_eq_true hl) r
theorem inS {us : List V} {ds : List D} {a : Addr} {vs0 : List V} {ds0 : List D} {φ : List D → Prop} {t : TS} {E : Ends} (ha : a ∈ M) (hl0 : H a = some (.lst vs0)) (h0 : Ats K (hid M H) vs0 ds0) (hφ : φ ds0) (h : Ats K (hid M H) us ds) (lv : ∀ a ∈ M, ∃ o, H a = some o)
    (ks : List Kd) (r : Run ⟨K, hid [a] H, hid M H, M⟩ ks t E) (e : ks = .bor φ :: kin ds (N.length - 1 - ds.length) := by rfl) (hl : Nat.ble (ds.length + 1) N.length = true := by rfl) : t E (L2.start N (.ref a :: us)) H := enterS ha hl0 h0 hφ h lv ks e (Nat.le_of_ble_eq_true hl) r
end
end Dl
set_option Elab.async false
set_option linter.all false
set_option maxRecDepth 100000
set_option maxHeartbeats 4000000
/-! SortR: sorted of a list of tuples of numbers, any length. -/
namespace SortR
open PySem PySem.Spec PyProof.Rows L2
def leR : List Int → List Int → Bool := fun a b => decide (a ≤ b)
def encT (r : List Int) : PyData := .tuple (r.map .int)
theorem dataLe_tup : PySem.W.dataLe false encT = leR := by
  funext p q
  show (!PySem.W.dataLt (.tuple (q.map .int)) (.tuple (p.map .int))) = _
  rw [PySem.W.dataLt_tuple]
  show (!PySem.W.rowLt (q.map .int) (p.map .int)) = _
  rw [PySem.W.dataLt_ints]
  unfold leR
  by_cases h : q < p
  · have h' : ¬ p ≤ q := fun r => List.not_lt.mpr r h
    simp [h, h']
  · have h' : p ≤ q := List.not_lt.mp h
    simp [h, h']
def rSortR (K : PySem.W.Frag) : List V → Hp → VK → Prop := fun vs H Q => ∃ (a : Addr) (us : List V) (rows : List (List Int)) (R : V → List Int → Prop), vs = [.ref a] ∧ SqL K H a us ∧
  Paired (fun u r => (∃ t, u = V.ref t ∧ SqT K H t (r.map V.int)) ∧ R u r) us rows ∧ (rows.length ≤ 1 ∨ ∀ r ∈ rows, r ≠ []) ∧
  ∀ p us', H p = none → Paired R us' (rows.mergeSort leR) → Q (.ref p) (upd H p (.lst us'))
theorem dp_ints {K : PySem.W.Frag} {H : Hp} : ∀ ns : List Int, DpAll K H (ns.map V.int) (ns.map .int)
  | [] => .nil
  | n :: ns => .cons (.int n) (dp_ints ns)
theorem each_back {R : V → List Int → Prop} : ∀ {out : List Value} {bs : List (List Int)}, PySem.W.EachIs (fun v b => ∃ u, RelV u v ∧ R u b) out bs → ∃ us', Vals us' out ∧ Paired R us' bs
  | _, _, .nil => ⟨[], .nil, .nil⟩
  | _, _, .cons ⟨u, h1, h2⟩ t => by
    obtain ⟨us, h3, h4⟩ := each_back t
    exact ⟨u :: us, .cons h1 h3, .cons h2 h4⟩
theorem each_fwd {R : V → List Int → Prop} : ∀ {us : List V} {its : List Value} {bs : List (List Int)}, Vals us its → Paired R us bs → PySem.W.EachIs (fun v b => ∃ u, RelV u v ∧ R u b) its bs
  | _, _, _, .nil, .nil => .nil
  | _, _, _, .cons h1 t, .cons h2 t2 => .cons ⟨_, h1, h2⟩ (each_fwd t t2)
section
variable {X : Cx}
theorem each_reads {pins : List (Addr × Obj)} {σ : L2.St} {H : Hp} {s : Shared} (I : Inv X pins σ H s) : ∀ {us : List V} {its : List Value} {bs : List (List Int)}, Vals us its → Paired (fun u r => ∃ t, u = V.ref t ∧ SqT X.K H t (r.map V.int)) us bs → PySem.W.EachIs (fun v b => ∃ as, Reads s.heap v (encT b) as) its bs
  | _, _, _, .nil, .nil => .nil
  | _, _, _, .cons h1 t, .cons ⟨a, e, h2⟩ t2 => by
    subst e
    exact .cons (Dp.reads I (encT _) (.ref a) _ (.tup h2 (dp_ints _)) h1) (each_reads I t t2)
theorem paired_len {α β : Type} {R : α → β → Prop} : ∀ {as : List α} {bs : List β}, Paired R as bs → as.length = bs.length
  | _, _, .nil => rfl
  | _, _, .cons _ t => congrArg (· + 1) (paired_len t)
theorem paired_map {α β : Type} {R S : α → β → Prop} (f : ∀ a b, R a b → S a b) : ∀ {as : List α} {bs : List β}, Paired R as bs → Paired S as bs
  | _, _, .nil => .nil
  | _, _, .cons h t => .cons (f _ _ h) (paired_map f t)
theorem sort_one : ∀ {rows : List (List Int)}, rows.length ≤ 1 → rows.mergeSort leR = rows
  | [], _ => by simp
  | [v], _ => by simp
  | _ :: _ :: _, h => absurd h (by simp)
theorem perm_one {α : Type} : ∀ {its out : List α}, its.length ≤ 1 → out.Perm its → out = its
  | [], _, _, p => List.Perm.eq_nil p
  | [v], _, _, p => List.perm_singleton.mp p
  | _ :: _ :: _, _, h, _ => absurd h (by simp)
theorem cr_sortedR (hr : X.A.units + 65 < cLine) : CallR X (.builtin "sorted") (rSortR X.K) := by
  intro pins s σ H vs us0 Q I r h
  obtain ⟨a, us, rows, R, rfl, hs, hp, hc, q⟩ := h
  obtain ⟨its, rv, hl, hz⟩ := I.list hs
  rw [Vals.ref1 r]
  have l1 := rv.length
  have l2 := paired_len hp
  have fin : ∀ out : List Value, out.length ≤ sizeLine → PySem.W.EachIs (fun v b => ∃ u, RelV u v ∧ R u b) out (rows.mergeSort leR) → EP X pins σ Q (.ref (s.heap.objs.size + 1)) { s with heap := sortedAll s.heap its out.toArray } := fun out hlen e => by
    obtain ⟨us', h1, h2⟩ := each_back e
    obtain ⟨ep, he'⟩ := PyProof.Rows.sortedAll_at s.heap its out.toArray
    exact ⟨.ref _, upd H (s.heap.objs.size + 1) (.lst us'), I.laid (t' := s.toks) (fun _ _ => PyProof.Rows.sortedAll_old) (Nat.le_succ _) ⟨by rw [h1.length]; exact hlen, out, ep, h1, he'⟩, rfl, q _ _ (I.hok.fresh (Nat.le_succ _)) h2⟩
  by_cases hlen : rows.length ≤ 1
  · refine SrtO.sorted_ord SrtO.swo_int hl.isList (by rw [← rv.length]; exact hz) (fun h2 h₁ a' _ _ => absurd h2 (by omega)) fun out h1 h2 => fin out ?_ ?_
    · rw [h2.perm.length_eq, ← l1]
      exact hz
    · have e : out = its := by
        have pe := h2.perm
        exact perm_one (by omega) pe
      have e2 : rows.mergeSort leR = rows := by
        exact sort_one hlen
      rw [e, e2]
      exact each_fwd rv (paired_map (fun _ _ z => z.2) hp)
  · have hne : ∀ r ∈ rows, r ≠ [] := by
      rcases hc with z | z
      · exact absurd z hlen
      · exact z
    have er := each_reads I rv (paired_map (fun _ _ z => z.1) hp)
    have e := each_fwd rv (paired_map (fun _ _ z => z.2) hp)
    refine PySem.W.sorted_data (enc := encT) (bs := rows) (R := fun v b => ∃ u, RelV u v ∧ R u b) (vs := its) hl.isList e er ?_ ?_ (by rw [← l2]; exact hz) ?_ fun out h1 h2 => fin out (by rw [h1, ← l2]; exact hz) (by rw [dataLe_tup] at h2; exact h2)
    · intro d hd d' hd'
      obtain ⟨b, _, rfl⟩ := List.mem_map.mp hd
      obtain ⟨b', _, rfl⟩ := List.mem_map.mp hd'
      show PySem.W.alike (.tuple _) (.tuple _) = true
      simp only [PySem.W.alike]
      exact PySem.W.alike_ints b b'
    · refine .inl fun d hd => ?_
      obtain ⟨b, hb, rfl⟩ := List.mem_map.mp hd
      cases b with
      | nil => exact absurd rfl (hne [] hb)
      | cons x xs => exact ⟨_, _, rfl⟩
    · intro b hb
      have : (encT b).depth = 1 := by
        unfold encT
        simp only [PyData.depth]
        rw [PySem.W.depth_ints]
      rw [this]
      exact Nat.lt_of_le_of_lt (Nat.add_le_add_left (show 2 + 1 ≤ 65 by decide) X.A.units) hr
end
end SortR
namespace Dl
open PySem PySem.Spec PyProof.Rows L2
theorem cr_sortedK {X : Cx} (K : PySem.W.Frag) (hr : X.A.units + 65 < cLine) (hK : X.K = K := by rfl) : CallR X (.builtin "sorted") (SortR.rSortR K) := by subst hK; exact SortR.cr_sortedR hr
section
variable {F : Fm} {ks : List Kd}
theorem pair_rows {K : PySem.W.Frag} {H H2 : Hp} (sm : Same H H2) : ∀ {vs : List V} {rows : List (List Int)}, Ats K H vs (rws rows) → Paired (fun u r => (∃ t, u = V.ref t ∧ SqT K H2 t (r.map V.int)) ∧ At K H u (rw r)) vs rows
  | _, [], .nil => .nil
  | _, r :: rows, .cons h t => by
    have h' := h
    cases h with
    | tup hs hd =>
      have e := hd.ints
      subst e
      exact .cons ⟨⟨_, rfl, same_t sm hs⟩, h'⟩ (pair_rows sm t)
theorem pair_ats {K : PySem.W.Frag} {H : Hp} : ∀ {vs : List V} {rows : List (List Int)}, Paired (fun u r => At K H u (rw r)) vs rows → Ats K H vs (rws rows)
  | _, _, .nil => .nil
  | _, _, .cons h t => .cons h (pair_ats t)
theorem cavl_sorted {rows : List (List Int)} (hc : rows.length ≤ 1 ∨ ∀ r ∈ rows, r ≠ []) : CaVL F ks (SortR.rSortR F.K) [.lst (rws rows)] (fun ds => ds = rws (rows.mergeSort SortR.leR)) := fun M σ H o vs a Q q => by
  cases a with
  | cons a1 a2 =>
    cases a2
    cases a1 with
    | lst hl hs =>
      refine ⟨_, _, rows, fun u r => At F.K (hid M H) u (rw r), rfl, .inl (.inl (hid_same _ _ hl)), pair_rows hid_same hs, hc, fun p us' n hp => ?_⟩
      obtain ⟨o2, s2, l2, a2⟩ := lst_new o (pair_ats hp) n
      exact q _ _ _ _ n o2 s2 l2 a2 rfl
end
end Dl
set_option Elab.async false
set_option linter.all false
set_option maxHeartbeats 2000000
/-! LinDef: what the defs of linear.py compute, as plain functions of rows of numbers. -/
namespace Dl
open PySem L2
def PR (p : Int) : Prop := p = 2 ∨ p = 3 ∨ p = 5 ∨ p = 7
theorem PR.pos {p : Int} (h : PR p) : 0 < p := by rcases h with h | h | h | h <;> omega
theorem PR.two {p : Int} (h : PR p) : 2 ≤ p := by rcases h with h | h | h | h <;> omega
theorem PR.le {p : Int} (h : PR p) : p ≤ 7 := by rcases h with h | h | h | h <;> omega
/-- rows of n numbers modulo p -/
def Vc (p : Int) (n : Nat) (v : List Int) : Prop := v.length = n ∧ ∀ x ∈ v, 0 ≤ x ∧ x < p
def mScl (p a : Int) (v : List Int) : List Int := v.map fun x => x * a % p
def mAdd (p : Int) (v w : List Int) : List Int := List.zipWith (fun x y => (x + y) % p) v w
def mClr (p : Int) (j : Nat) (head row : List Int) : List Int := if row.getD j 0 = 0 then row else List.zipWith (fun x y => (x - row.getD j 0 * y) % p) row head
def mInv (p a : Int) : Int := (((List.range (p - 1).toNat).map fun (k : Nat) => 1 + (k : Int)).find? fun k => a * k % p == 1).getD 0
def zer (n : Nat) : List Int := List.replicate n 0
theorem emod_in {p : Int} (hp : 0 < p) (x : Int) : 0 ≤ x % p ∧ x % p < p := ⟨Int.emod_nonneg x (by omega), Int.emod_lt_of_pos x hp⟩
theorem Vc.scl {p a : Int} {n : Nat} {v : List Int} (hp : 0 < p) (h : v.length = n) : Vc p n (mScl p a v) := ⟨by unfold mScl; rw [List.length_map]; exact h, fun x hx => by
  unfold mScl at hx
  obtain ⟨y, _, e⟩ := List.mem_map.mp hx
  rw [← e]
  exact emod_in hp _⟩
theorem mem_zipWith {f : Int → Int → Int} : ∀ {v w : List Int} {x : Int}, x ∈ List.zipWith f v w → ∃ a b, x = f a b
  | [], _, _, h => by simp at h
  | _ :: _, [], _, h => by simp at h
  | a :: v, b :: w, x, h => by
    rw [List.zipWith_cons_cons, List.mem_cons] at h
    rcases h with h | h
    · exact ⟨a, b, h⟩
    · exact mem_zipWith h
theorem Vc.add {p : Int} {n : Nat} {v w : List Int} (hp : 0 < p) (hv : v.length = n) (hw : w.length = n) : Vc p n (mAdd p v w) := ⟨by unfold mAdd; rw [List.length_zipWith, hv, hw, Nat.min_self], fun x hx => by
  obtain ⟨a, b, e⟩ := mem_zipWith hx
  rw [e]
  exact emod_in hp _⟩
theorem Vc.clr {p : Int} {n j : Nat} {head row : List Int} (hp : 0 < p) (hh : head.length = n) (hr : Vc p n row) : Vc p n (mClr p j head row) := by
  unfold mClr
  split
  · exact hr
  · refine ⟨by rw [List.length_zipWith, hh, hr.1, Nat.min_self], fun x hx => ?_⟩
    obtain ⟨a, b, e⟩ := mem_zipWith hx
    rw [e]
    exact emod_in hp _
theorem Vc.zer {p : Int} {n : Nat} (hp : 0 < p) : Vc p n (zer n) := ⟨List.length_replicate, fun x hx => by
  rw [(List.mem_replicate.mp hx).2]
  omega⟩
theorem getD_mem {v : List Int} {j : Nat} (h : j < v.length) : v.getD j 0 ∈ v := by
  rw [List.getD_eq_getElem?_getD, List.getElem?_eq_getElem h]
  exact List.getElem_mem h
theorem Vc.at {p : Int} {n : Nat} {v : List Int} (h : Vc p n v) {j : Nat} (hj : j < n) : 0 ≤ v.getD j 0 ∧ v.getD j 0 < p := h.2 _ (getD_mem (by rw [h.1]; exact hj))
/-- the inverse modulo a prime is found -/
theorem mInv_ok {p a : Int} (hp : PR p) (ha : a % p ≠ 0) : 1 ≤ mInv p a ∧ mInv p a < p ∧ a * mInv p a % p = 1 := by
  have key : ∃ k : Nat, k < (p - 1).toNat ∧ a * (1 + (k : Int)) % p = 1 := by
    have h0 : 0 ≤ a % p := Int.emod_nonneg a (by have := hp.pos; omega)
    have h1 : a % p < p := Int.emod_lt_of_pos a hp.pos
    rcases hp with e | e | e | e <;> subst e
    · refine ⟨0, by decide, ?_⟩
      simp
      omega
    · have : a % 3 = 1 ∨ a % 3 = 2 := by omega
      rcases this with h | h
      · exact ⟨0, by decide, by simp; omega⟩
      · refine ⟨1, by decide, ?_⟩
        show a * 2 % 3 = 1
        omega
    · have : a % 5 = 1 ∨ a % 5 = 2 ∨ a % 5 = 3 ∨ a % 5 = 4 := by omega
      rcases this with h | h | h | h
      · exact ⟨0, by decide, by simp; omega⟩
      · exact ⟨2, by decide, by show a * 3 % 5 = 1; omega⟩
      · exact ⟨1, by decide, by show a * 2 % 5 = 1; omega⟩
      · exact ⟨3, by decide, by show a * 4 % 5 = 1; omega⟩
    · have : a % 7 = 1 ∨ a % 7 = 2 ∨ a % 7 = 3 ∨ a % 7 = 4 ∨ a % 7 = 5 ∨ a % 7 = 6 := by omega
      rcases this with h | h | h | h | h | h
      · exact ⟨0, by decide, by simp; omega⟩
      · exact ⟨3, by decide, by show a * 4 % 7 = 1; omega⟩
      · exact ⟨4, by decide, by show a * 5 % 7 = 1; omega⟩
      · exact ⟨1, by decide, by show a * 2 % 7 = 1; omega⟩
      · exact ⟨2, by decide, by show a * 3 % 7 = 1; omega⟩
      · exact ⟨5, by decide, by show a * 6 % 7 = 1; omega⟩
  obtain ⟨k, hk, hk1⟩ := key
  unfold mInv
  cases e : ((List.range (p - 1).toNat).map fun (k : Nat) => 1 + (k : Int)).find? fun k => a * k % p == 1 with
  | none =>
    have := List.find?_eq_none.mp e (1 + (k : Int)) (List.mem_map.mpr ⟨k, List.mem_range.mpr hk, rfl⟩)
    simp [hk1] at this
  | some j =>
    have h1 := List.find?_some e
    have h2 := List.mem_of_find?_eq_some e
    obtain ⟨i, hi, e2⟩ := List.mem_map.mp h2
    rw [List.mem_range] at hi
    show 1 ≤ j ∧ j < p ∧ a * j % p = 1
    refine ⟨by omega, by omega, ?_⟩
    simpa using h1
/-- where the first item at j that is not 0 stands -/
def hds (left : List (List Int)) (j : Nat) : List Nat := (List.range left.length).filter fun k => !decide ((left.getD k []).getD j 0 = 0)
structure RS where
  left : List (List Int)
  found : List (List Int)
  piv : List Int
def rStep (p : Int) (s : RS) (j : Nat) : RS := match hds s.left j with
  | [] => s
  | h :: _ =>
    let head := mScl p (mInv p ((s.left.getD h []).getD j 0)) (s.left.getD h [])
    ⟨(s.left.eraseIdx h).map (mClr p j head), s.found.map (mClr p j head) ++ [head], s.piv ++ [(j : Int)]⟩
def rRun (p : Int) (rows : List (List Int)) (n : Nat) : RS := (List.range n).foldl (rStep p) ⟨rows, [], []⟩
theorem rRun_succ (p : Int) (rows : List (List Int)) (n : Nat) : rRun p rows (n + 1) = rStep p (rRun p rows n) n := by
  unfold rRun
  rw [List.range_succ, List.foldl_append]
  rfl
def mRed (p : Int) (n : Nat) (rows : List (List Int)) : List (List Int) := (rRun p rows n).found
def mPiv (p : Int) (n : Nat) (rows : List (List Int)) : List Int := (rRun p rows n).piv
def Vcs (p : Int) (n : Nat) (l : List (List Int)) : Prop := ∀ v ∈ l, Vc p n v
theorem hds_mem {left : List (List Int)} {j h : Nat} (e : h ∈ hds left j) : h < left.length ∧ (left.getD h []).getD j 0 ≠ 0 := by
  unfold hds at e
  obtain ⟨h1, h2⟩ := List.mem_filter.mp e
  exact ⟨List.mem_range.mp h1, by simpa using h2⟩
theorem getD_memL {l : List (List Int)} {j : Nat} (h : j < l.length) : l.getD j [] ∈ l := by
  rw [List.getD_eq_getElem?_getD, List.getElem?_eq_getElem h]
  exact List.getElem_mem h
theorem rStep_nil {p : Int} {s : RS} {j : Nat} (e : hds s.left j = []) : rStep p s j = s := by unfold rStep; rw [e]
theorem rStep_cons {p : Int} {s : RS} {j h : Nat} {t : List Nat} (e : hds s.left j = h :: t) : rStep p s j = ⟨(s.left.eraseIdx h).map (mClr p j (mScl p (mInv p ((s.left.getD h []).getD j 0)) (s.left.getD h []))), s.found.map (mClr p j (mScl p (mInv p ((s.left.getD h []).getD j 0)) (s.left.getD h []))) ++ [mScl p (mInv p ((s.left.getD h []).getD j 0)) (s.left.getD h [])], s.piv ++ [(j : Int)]⟩ := by
  unfold rStep
  rw [e]
structure RSok (p : Int) (n m : Nat) (s : RS) : Prop where
  l : Vcs p n s.left
  f : Vcs p n s.found
  len : s.left.length + s.found.length = m
  pl : s.piv.length = s.found.length
theorem rStep_ok {p : Int} {n m j : Nat} {s : RS} (hp : 0 < p) (h : RSok p n m s) : RSok p n m (rStep p s j) := by
  cases e : hds s.left j with
  | nil => rw [rStep_nil e]; exact h
  | cons k t =>
    rw [rStep_cons e]
    obtain ⟨h1, h2⟩ := hds_mem (by rw [e]; exact List.mem_cons_self : k ∈ hds s.left j)
    have hv := h.l _ (getD_memL h1)
    have hh : Vc p n (mScl p (mInv p ((s.left.getD k []).getD j 0)) (s.left.getD k [])) := Vc.scl hp hv.1
    refine ⟨fun v hv => ?_, fun v hv => ?_, ?_, ?_⟩
    · obtain ⟨u, hu, e⟩ := List.mem_map.mp hv
      rw [← e]
      exact Vc.clr hp hh.1 (h.l u (List.mem_of_mem_eraseIdx hu))
    · rcases List.mem_append.mp hv with hv | hv
      · obtain ⟨u, hu, e⟩ := List.mem_map.mp hv
        rw [← e]
        exact Vc.clr hp hh.1 (h.f u hu)
      · rw [List.mem_singleton.mp hv]
        exact hh
    · rw [List.length_map, List.length_eraseIdx, if_pos h1, List.length_append, List.length_map, List.length_singleton]
      have := h.len
      omega
    · rw [List.length_append, List.length_append, List.length_map, h.pl, List.length_singleton, List.length_singleton]
theorem rRun_ok {p : Int} {n : Nat} {rows : List (List Int)} (hp : 0 < p) (h : Vcs p n rows) : ∀ k, RSok p n rows.length (rRun p rows k)
  | 0 => ⟨h, fun v hv => absurd hv (by unfold rRun; simp), by unfold rRun; simp, by unfold rRun; simp⟩
  | k + 1 => by
    rw [rRun_succ]
    exact rStep_ok hp (rRun_ok hp h k)
/-- the place of the first item that is not 0 -/
def nz (row : List Int) : List Nat := (List.range row.length).filter fun k => !decide (row.getD k 0 = 0)
def mPv (row : List Int) : Nat := (nz row).headD 0
def mRest (p : Int) (space : List (List Int)) (v : List Int) : List Int := space.foldl (fun f r => mClr p (mPv r) r f) v
theorem nz_mem {row : List Int} {k : Nat} (h : k ∈ nz row) : k < row.length ∧ row.getD k 0 ≠ 0 := by
  unfold nz at h
  obtain ⟨h1, h2⟩ := List.mem_filter.mp h
  exact ⟨List.mem_range.mp h1, by simpa using h2⟩
theorem mPv_mem {row : List Int} (h : nz row ≠ []) : mPv row ∈ nz row := by
  unfold mPv
  cases e : nz row with
  | nil => exact absurd e h
  | cons a t => exact List.mem_cons_self
/-- what the law's own draws leave -/
def stOk (ds : List D) : Prop := ∃ s t : Int, ds = [.int s, .int t] ∧ 0 ≤ s ∧ 0 ≤ t
theorem map_range_zip (f : Int → Int → Int) : ∀ {v w : List Int}, v.length = w.length → (List.range v.length).map (fun k => f (v.getD k 0) (w.getD k 0)) = List.zipWith f v w
  | [], [], _ => rfl
  | [], _ :: _, h => by simp at h
  | _ :: _, [], h => by simp at h
  | a :: v, b :: w, h => by
    rw [List.length_cons, List.range_succ_eq_map, List.map_cons, List.map_map, List.zipWith_cons_cons, ← map_range_zip f (v := v) (w := w) (by simpa using h)]
    rfl
theorem zer_map (n : Nat) : (List.range n).map (fun _ => (0 : Int)) = zer n := by
  unfold zer
  induction n with
  | zero => rfl
  | succ n ih => rw [List.range_succ, List.map_append, ih, List.replicate_succ']; rfl
theorem rw_zer (n : Nat) : D.tup (List.replicate n (.int 0)) = rw (zer n) := by
  show _ = D.tup _
  unfold zer
  rw [List.map_replicate]
theorem rw_inj {v w : List Int} (h : rw v = rw w) : v = w := by
  have h2 : v.map D.int = w.map D.int := D.tup.inj h
  induction v generalizing w with
  | nil =>
    cases w with
    | nil => rfl
    | cons b w => cases h2
  | cons a v ih =>
    cases w with
    | nil => cases h2
    | cons b w =>
      rw [List.map_cons, List.map_cons] at h2
      injection h2 with e1 e2
      rw [D.int.inj e1, ih (by show D.tup _ = D.tup _; rw [e2]) e2]
theorem rw_pln (v : List Int) : Pln 1 (rw v) := Pln.tup (Pln.map fun x _ => Pln.int x 0)
theorem rw_cln (v : List Int) : cln (rw v) = true := cln_tup (cln_map fun x _ => cln_int x)
theorem rw_ok (v : List Int) : okD (rw v) = true := (rw_pln v).ok
theorem eqv_rw (v w : List Int) : PyData.eqv (py (rw v)) (py (rw w)) = decide (v = w) := eqv_inj (f := rw) (fun _ _ => rw_inj) (rw_cln v) (rw_cln w) (rw_pln v).1
theorem rws_okL (l : List (List Int)) : okD (.lst (rws l)) = true := (Pln.lst (n := 1) (Pln.map fun x _ => rw_pln x)).ok
theorem rws_okT (l : List (List Int)) : okD (.tup (rws l)) = true := (Pln.tup (n := 1) (Pln.map fun x _ => rw_pln x)).ok
theorem any_rws (v : List Int) (l : List (List Int)) : (rws l).any (fun z => PyData.eqv (py z) (py (rw v))) = decide (v ∈ l) := by
  rw [any_code (f := rw) (fun _ _ => rw_inj) rw_cln (fun v => (rw_pln v).1) v l]
  congr
/-- one more row of the law's own span -/
def spStep (p : Int) (found : List (List Int)) (row : List Int) : List (List Int) := if row ∈ found then found else found.flatMap fun w => (List.range p.toNat).map fun (a : Nat) => mAdd p w (mScl p (a : Int) row)
def spanL (p : Int) (n : Nat) (rows : List (List Int)) : List (List Int) := rows.foldl (spStep p) [zer n]
def mSpan (p : Int) (n : Nat) (rows : List (List Int)) : List (List Int) := (spanL p n rows).mergeSort SortR.leR
theorem spanL_snoc (p : Int) (n : Nat) (rows : List (List Int)) (r : List Int) : spanL p n (rows ++ [r]) = spStep p (spanL p n rows) r := by
  unfold spanL
  rw [List.foldl_append]
  rfl
theorem flatMap_len {α β : Type} (f : α → List β) (m : Nat) (hf : ∀ a, (f a).length = m) : ∀ l : List α, (l.flatMap f).length = l.length * m
  | [] => by simp
  | a :: l => by
    rw [List.flatMap_cons, List.length_append, hf, flatMap_len f m hf l, List.length_cons, Nat.succ_mul]
    omega
theorem spStep_len (p : Int) (found : List (List Int)) (r : List Int) : (spStep p found r).length ≤ found.length * max 1 p.toNat := by
  unfold spStep
  split
  · exact Nat.le_mul_of_pos_right _ (by omega)
  · rw [flatMap_len _ p.toNat fun w => by rw [List.length_map, List.length_range]]
    exact Nat.mul_le_mul_left _ (by omega)
theorem spanL_len {p : Int} (hp : 0 < p) (n : Nat) : ∀ (k : Nat) (rows : List (List Int)), (spanL p n (rows.take k)).length ≤ p.toNat ^ k
  | 0, rows => by rw [List.take_zero]; simp [spanL]
  | k + 1, rows => by
    have ih := spanL_len hp n k rows
    by_cases h : k < rows.length
    · rw [List.take_add_one, List.getElem?_eq_getElem h, Option.toList_some, spanL_snoc]
      refine Nat.le_trans (spStep_len p _ _) ?_
      rw [Nat.pow_succ, show max 1 p.toNat = p.toNat by omega]
      exact Nat.mul_le_mul_right _ ih
    · rw [List.take_of_length_le (by omega)]
      rw [List.take_of_length_le (by omega)] at ih
      exact Nat.le_trans ih (Nat.pow_le_pow_right (by omega) (by omega))
theorem spStep_vc {p : Int} {n : Nat} {found : List (List Int)} {r : List Int} (hp : 0 < p) (h : Vcs p n found) (hr : r.length = n) : Vcs p n (spStep p found r) := by
  unfold spStep
  split
  · exact h
  · intro v hv
    obtain ⟨w, hw, h2⟩ := List.mem_flatMap.mp hv
    obtain ⟨a, _, e⟩ := List.mem_map.mp h2
    rw [← e]
    exact Vc.add hp (h w hw).1 (by unfold mScl; rw [List.length_map]; exact hr)
theorem foldl_vc {p : Int} {n : Nat} (hp : 0 < p) : ∀ {rows found : List (List Int)}, Vcs p n found → (∀ r ∈ rows, r.length = n) → Vcs p n (rows.foldl (spStep p) found)
  | [], _, h, _ => h
  | r :: rows, found, h, hr => by
    rw [List.foldl_cons]
    exact foldl_vc hp (spStep_vc hp h (hr r List.mem_cons_self)) fun x hx => hr x (List.mem_cons_of_mem _ hx)
theorem spanL_vc {p : Int} {n : Nat} (hp : 0 < p) {rows : List (List Int)} (hr : ∀ r ∈ rows, r.length = n) : Vcs p n (spanL p n rows) := foldl_vc hp (fun v hv => by rw [List.mem_singleton.mp hv]; exact Vc.zer hp) hr
theorem mem_mSpan {p : Int} {n : Nat} {rows : List (List Int)} {v : List Int} : v ∈ mSpan p n rows ↔ v ∈ spanL p n rows := List.mem_mergeSort
end Dl
set_option Elab.async false
set_option linter.all false
set_option maxHeartbeats 2000000
/-! LawDef: what the laws' own defs leave; more rules. -/
namespace Dl
open PySem PySem.Spec PyProof.Rows L2
variable {F : Fm} {ks : List Kd} {E : Ends}
theorem EvAR.imp {ta : TA} {R S : List D → Prop} (h : EvAR F ks ta R) (i : ∀ d, R d → S d) : EvAR F ks ta S := fun M σ H o Q q => h M σ H o Q fun vs ds H' o' st a r => q vs ds H' o' st a (i ds r)
theorem OpV.imp {r : R2} {x y : D} {R S : D → Prop} (h : OpV F ks r x y R) (i : ∀ d, R d → S d) : OpV F ks r x y S := fun M σ H o v w a b Q q => h M σ H o v w a b Q fun z d H' o' st a' e => q z d H' o' st a' (i d e)
theorem rs_setB {te ti : TE} {i n : Nat} {k : Kd} {ds : List D} {d : D} {j : Int} {ψ : List D → Prop} {u : TS} (hk : ks[i]? = some k) (hm : isM k = true) (hw : ∀ x, wishK k x → x = ds) (h : Ev F ks te d) (hi : Ev F ks ti (.int j)) (hz : ixN ds.length j = some n) (hψ : ψ (ds.set n d)) (c : Run F (ks.set i (reK k ψ)) u E) :
    Run F ks (tSeq (tAsg te (gSub (tVar i) ti rSetL)) u) E :=
  run_seq (run_setR (Ri := fun x => x = j) hk hm h (hi.imp fun d e => ⟨j, rfl, e⟩) (fun es e j' h1 h2 h3 => ⟨n, by rw [hw es h1, h3]; exact hz, by rw [hw es h1, show e = d from h2]; exact hψ⟩) c)
theorem run_retSw {H0 : Hp} {M0 : List Addr} {Q : VK} {T R : D → Prop} {te : TE} {i : Nat} {a : Addr} {φ ψ : List D → Prop} (q : ∀ d v H' vs1 ds1, T d → (∀ b o, H0 b = some o → b ≠ a → H' b = some o) → H' a = some (.lst vs1) → Ats F.K (hid M0 H') vs1 ds1 → φ ds1 → At F.K (hid M0 H') v d → Q v H')
    (hb : Same (hid [a] H0) F.B) (lv : ∀ b ∈ F.M0, ∃ o, H0 b = some o) (hm : F.M0 = M0) (hE : E.rt = Q) (hk : ks[i]? = some (.bor ψ)) (hw : ∀ x, ψ x → φ x) (h : EvR F ks te R) (hi : ∀ d, R d → T d) : Run F ks (tRet te) E :=
  run_retS (φ := ψ) (fun d v H' vs1 ds1 h1 h2 h3 h4 h5 h6 => q d v H' vs1 ds1 h1 h2 h3 h4 (hw _ h5) h6) hb lv hm hE hk h hi
/-- the two ways out of an if meet again -/
theorem rs_join {α : Type} {tt : TT} {t u : TS} {R : Bool → Prop} (K : α → List Kd) (P : α → Prop) (h : EvTR F ks tt R) (h0 : ∃ a, P a ∧ KsLe ks (K a)) (h1 : R true → ∀ N : Sg → Hp → Prop, (∀ a, P a → Cont F (K a) N) → Run F ks t { E with nx := N }) (c : ∀ a, P a → Run F (K a) u E) : Run F ks (tSeq (tIfS tt t tNext) u) E :=
  rs_ifR h (fun r => h1 r (u E) fun a pa => c a pa) fun _ => by
    obtain ⟨a, pa, w⟩ := h0
    exact rs_weak (c a pa) w
theorem paired_vc {p : Int} {α : Type} : ∀ {xs : List α} {ds : List D}, Paired (fun _ d => ∃ r : Int, 0 ≤ r ∧ r < p ∧ d = .int r) xs ds → ∃ v, Vc p xs.length v ∧ ds = v.map D.int
  | _, _, .nil => ⟨[], ⟨rfl, fun x hx => absurd hx (by simp)⟩, rfl⟩
  | _, _, .cons ⟨r, h1, h2, e⟩ t => by
    obtain ⟨v, hv, e2⟩ := paired_vc t
    refine ⟨r :: v, ⟨by rw [List.length_cons, List.length_cons, hv.1], fun x hx => ?_⟩, by rw [e, e2]; rfl⟩
    rcases List.mem_cons.mp hx with e | h
    · rw [e]; exact ⟨h1, h2⟩
    · exact hv.2 x h
/-- reduced form, as the law looks at it -/
structure InForm (n : Nat) (l : List (List Int)) : Prop where
  len : ∀ i, i < l.length → (l.getD i []).length = n
  ne : ∀ i, i < l.length → nz (l.getD i []) ≠ []
  one : ∀ i, i < l.length → (l.getD i []).getD (mPv (l.getD i [])) 0 = 1
  inc : ∀ i j, i < j → j < l.length → mPv (l.getD i []) < mPv (l.getD j [])
  off : ∀ i k, i < l.length → k < l.length → k ≠ i → (l.getD k []).getD (mPv (l.getD i [])) 0 = 0
def lastP (l : List (List Int)) : Nat → Int
  | 0 => -1
  | i + 1 => (mPv (l.getD i []) : Int)
theorem InForm.last {n : Nat} {l : List (List Int)} (h : InForm n l) {i : Nat} (hi : i < l.length) : lastP l i < (mPv (l.getD i []) : Int) := by
  cases i with
  | zero => show (-1 : Int) < _; omega
  | succ i =>
    have := h.inc i (i + 1) (Nat.lt_succ_self i) hi
    show (mPv (l.getD i []) : Int) < _
    omega
theorem zips_rw (v w : List Int) : zips (v.map D.int) (w.map D.int) = (v.zip w).map fun p => .tup [.int p.1, .int p.2] := by
  unfold zips
  rw [List.zip_map, List.map_map]
  rfl
theorem zip_map_with (f : Int → Int → Int) (v w : List Int) : (v.zip w).map (fun p => f p.1 p.2) = List.zipWith f v w := by
  rw [List.zip, List.map_zipWith]
theorem ixN_nat {n m : Nat} (h : m < n) : ixN n (m : Int) = some m := by
  unfold ixN
  simp
  omega
end Dl
set_option Elab.async false
set_option linter.all false
set_option maxHeartbeats 2000000
/-! LinMath: rows modulo a prime, spans, reduced tables. No program in sight. -/
namespace Dl
open PySem L2
def cf (v : List Int) (k : Nat) : Int := v.getD k 0
theorem cf_def (v : List Int) (k : Nat) : v.getD k 0 = cf v k := rfl
theorem em_l (a b p : Int) : (a % p * b) % p = (a * b) % p := by rw [Int.mul_emod, Int.emod_emod, ← Int.mul_emod]
theorem em_r (a b p : Int) : (a * (b % p)) % p = (a * b) % p := by rw [Int.mul_emod, Int.emod_emod, ← Int.mul_emod]
theorem em_al (x a b p : Int) : (x + a % p * b) % p = (x + a * b) % p := by rw [← Int.add_emod_emod, em_l, Int.add_emod_emod]
theorem em_ar (x a b p : Int) : (x + a * (b % p)) % p = (x + a * b) % p := by rw [← Int.add_emod_emod, em_r, Int.add_emod_emod]
theorem em_sl (x a b p : Int) : (x - a % p * b) % p = (x - a * b) % p := by rw [← Int.sub_emod_emod, em_l, Int.sub_emod_emod]
theorem em_sr (x a b p : Int) : (x - a * (b % p)) % p = (x - a * b) % p := by rw [← Int.sub_emod_emod, em_r, Int.sub_emod_emod]
theorem cf_ge {v : List Int} {k : Nat} (h : v.length ≤ k) : cf v k = 0 := by
  unfold cf
  rw [List.getD_eq_getElem?_getD, List.getElem?_eq_none h]
  rfl
theorem cf_lt {v : List Int} {k : Nat} (h : k < v.length) : cf v k = v[k] := by
  unfold cf
  rw [List.getD_eq_getElem?_getD, List.getElem?_eq_getElem h]
  rfl
theorem cf_zer (n k : Nat) : cf (zer n) k = 0 := by
  by_cases h : k < (zer n).length
  · rw [cf_lt h]
    exact List.eq_of_mem_replicate (List.getElem_mem h)
  · exact cf_ge (by omega)
theorem cf_scl (p a : Int) (v : List Int) (k : Nat) : cf (mScl p a v) k = (cf v k * a) % p := by
  by_cases h : k < v.length
  · rw [cf_lt (by unfold mScl; rw [List.length_map]; exact h), cf_lt h]
    unfold mScl
    rw [List.getElem_map]
  · rw [cf_ge (by unfold mScl; rw [List.length_map]; omega), cf_ge (by omega : v.length ≤ k), Int.zero_mul, Int.zero_emod]
theorem cf_zip (f : Int → Int → Int) {v w : List Int} (h : v.length = w.length) (f0 : f 0 0 = 0) (k : Nat) : cf (List.zipWith f v w) k = f (cf v k) (cf w k) := by
  by_cases hk : k < v.length
  · rw [cf_lt (by rw [List.length_zipWith, ← h, Nat.min_self]; exact hk), cf_lt hk, cf_lt (by omega : k < w.length), List.getElem_zipWith]
  · rw [cf_ge (by rw [List.length_zipWith]; omega), cf_ge (by omega : v.length ≤ k), cf_ge (by omega : w.length ≤ k), f0]
theorem cf_add {p : Int} {v w : List Int} (h : v.length = w.length) (k : Nat) : cf (mAdd p v w) k = (cf v k + cf w k) % p := cf_zip _ h (by simp) k
theorem Vc.cf {p : Int} {n : Nat} {v : List Int} (hp : 0 < p) (h : Vc p n v) (k : Nat) : 0 ≤ cf v k ∧ Dl.cf v k < p := by
  by_cases hk : k < v.length
  · exact h.2 _ (getD_mem hk)
  · rw [cf_ge (by omega)]
    exact ⟨Int.le_refl _, hp⟩
theorem Vc.md {p : Int} {n : Nat} {v : List Int} (hp : 0 < p) (h : Vc p n v) (k : Nat) : Dl.cf v k % p = Dl.cf v k := Int.emod_eq_of_lt (h.cf hp k).1 (h.cf hp k).2
theorem cf_clr {p : Int} {n j : Nat} {head row : List Int} (hp : 0 < p) (hr : Vc p n row) (hh : head.length = n) (k : Nat) : cf (mClr p j head row) k = (cf row k - cf row j * cf head k) % p := by
  unfold mClr
  split
  · rename_i e
    rw [show cf row j = 0 from e, Int.zero_mul, Int.sub_zero, hr.md hp]
  · exact cf_zip (fun x y => (x - row.getD j 0 * y) % p) (by rw [hr.1, hh]) (by simp) k
theorem vext {p : Int} {n : Nat} {v w : List Int} (hp : 0 < p) (hv : Vc p n v) (hw : Vc p n w) (h : ∀ k, cf v k % p = cf w k % p) : v = w := by
  refine List.ext_getElem (by rw [hv.1, hw.1]) fun k h1 h2 => ?_
  rw [← cf_lt h1, ← cf_lt h2, ← hv.md hp k, ← hw.md hp k]
  exact h k
theorem vext0 {n : Nat} {v w : List Int} (hv : v.length = n) (hw : w.length = n) (h : ∀ k, k < n → cf v k = cf w k) : v = w := by
  refine List.ext_getElem (by rw [hv, hw]) fun k h1 h2 => ?_
  rw [← cf_lt h1, ← cf_lt h2]
  exact h k (by omega)
theorem scl_len {p a : Int} {v : List Int} : (mScl p a v).length = v.length := by
  unfold mScl
  rw [List.length_map]
theorem Vc.scl' {p a : Int} {n : Nat} {v : List Int} (hp : 0 < p) (h : Vc p n v) : Vc p n (mScl p a v) := Vc.scl hp h.1
theorem Vc.add' {p : Int} {n : Nat} {v w : List Int} (hp : 0 < p) (h : Vc p n v) (g : Vc p n w) : Vc p n (mAdd p v w) := Vc.add hp h.1 g.1
/-- the sums of multiples of the rows of A -/
inductive In (p : Int) (n : Nat) (A : List (List Int)) : List Int → Prop
  | zero : In p n A (zer n)
  | add {w r : List Int} (a : Int) : In p n A w → r ∈ A → In p n A (mAdd p w (mScl p a r))
section
variable {p : Int} {n : Nat} {A B : List (List Int)} (hp : 0 < p)
include hp
theorem In.vc (hA : Vcs p n A) {v : List Int} (h : In p n A v) : Vc p n v := by
  induction h with
  | zero => exact Vc.zer hp
  | add a _ hr ih => exact ih.add' hp ((hA _ hr).scl' hp)
theorem add_zer {v : List Int} (hv : Vc p n v) : mAdd p v (zer n) = v := by
  refine vext hp (hv.add' hp (Vc.zer hp)) hv fun k => ?_
  rw [cf_add (by rw [hv.1, (Vc.zer hp : Vc p n _).1]), cf_zer]
  simp only [Int.add_zero, Int.emod_emod]
theorem zer_add {v : List Int} (hv : Vc p n v) : mAdd p (zer n) v = v := by
  refine vext hp ((Vc.zer hp).add' hp hv) hv fun k => ?_
  rw [cf_add (by rw [hv.1, (Vc.zer hp : Vc p n _).1]), cf_zer]
  simp only [Int.zero_add, Int.emod_emod]
theorem add_assoc {u v w : List Int} (hu : Vc p n u) (hv : Vc p n v) (hw : Vc p n w) : mAdd p u (mAdd p v w) = mAdd p (mAdd p u v) w := by
  refine vext hp (hu.add' hp (hv.add' hp hw)) ((hu.add' hp hv).add' hp hw) fun k => ?_
  rw [cf_add (by rw [hu.1, (hv.add' hp hw).1]), cf_add (by rw [hv.1, hw.1]), cf_add (by rw [(hu.add' hp hv).1, hw.1]), cf_add (by rw [hu.1, hv.1])]
  simp only [Int.emod_add_emod, Int.add_emod_emod, Int.emod_emod]
  congr 1
  grind
theorem add_comm' {u v : List Int} (hu : Vc p n u) (hv : Vc p n v) : mAdd p u v = mAdd p v u := by
  refine vext hp (hu.add' hp hv) (hv.add' hp hu) fun k => ?_
  rw [cf_add (by rw [hu.1, hv.1]), cf_add (by rw [hu.1, hv.1]), Int.add_comm]
theorem scl_add {b : Int} {u v : List Int} (hu : Vc p n u) (hv : Vc p n v) : mScl p b (mAdd p u v) = mAdd p (mScl p b u) (mScl p b v) := by
  refine vext hp ((hu.add' hp hv).scl' hp) ((hu.scl' hp).add' hp (hv.scl' hp)) fun k => ?_
  rw [cf_scl, cf_add (by rw [hu.1, hv.1]), cf_add (by rw [scl_len, scl_len, hu.1, hv.1]), cf_scl, cf_scl]
  simp only [Int.emod_add_emod, Int.add_emod_emod, Int.emod_emod, em_l]
  congr 1
  grind
theorem scl_scl {a b : Int} {u : List Int} (hu : Vc p n u) : mScl p b (mScl p a u) = mScl p (a * b) u := by
  refine vext hp ((hu.scl' hp).scl' hp) (hu.scl' hp) fun k => ?_
  rw [cf_scl, cf_scl, cf_scl]
  simp only [Int.emod_emod, em_l]
  congr 1
  grind
theorem add_scl {a b : Int} {u : List Int} (hu : Vc p n u) : mAdd p (mScl p a u) (mScl p b u) = mScl p (a + b) u := by
  refine vext hp ((hu.scl' hp).add' hp (hu.scl' hp)) (hu.scl' hp) fun k => ?_
  rw [cf_add (by rw [scl_len, scl_len]), cf_scl, cf_scl, cf_scl]
  simp only [Int.emod_emod, Int.emod_add_emod, Int.add_emod_emod]
  congr 1
  grind
theorem scl_zer {b : Int} : mScl p b (zer n) = zer n := by
  refine vext hp ((Vc.zer hp).scl' hp) (Vc.zer hp) fun k => ?_
  rw [cf_scl, cf_zer, Int.zero_mul, Int.emod_emod]
theorem scl_0 {u : List Int} (hu : Vc p n u) : mScl p 0 u = zer n := by
  refine vext hp (hu.scl' hp) (Vc.zer hp) fun k => ?_
  rw [cf_scl, cf_zer, Int.mul_zero, Int.emod_emod]
theorem scl_1 {b : Int} {u : List Int} (hu : Vc p n u) (hb : b % p = 1) : mScl p b u = u := by
  refine vext hp (hu.scl' hp) hu fun k => ?_
  rw [cf_scl, Int.emod_emod, ← em_r, hb, Int.mul_one]
theorem scl_mod {b : Int} {u : List Int} (hu : Vc p n u) : mScl p (b % p) u = mScl p b u := by
  refine vext hp (hu.scl' hp) (hu.scl' hp) fun k => ?_
  rw [cf_scl, cf_scl, em_r]
theorem clr_add {j : Nat} {head row : List Int} (hh : Vc p n head) (hr : Vc p n row) : mClr p j head row = mAdd p row (mScl p (-(cf row j)) head) := by
  refine vext hp (Vc.clr hp hh.1 hr) (hr.add' hp (hh.scl' hp)) fun k => ?_
  rw [cf_clr hp hr hh.1, cf_add (by rw [scl_len, hr.1, hh.1]), cf_scl]
  simp only [Int.emod_emod, Int.emod_add_emod, Int.add_emod_emod]
  congr 1
  grind
theorem clr_back {j : Nat} {head row : List Int} (hh : Vc p n head) (hr : Vc p n row) : row = mAdd p (mClr p j head row) (mScl p (cf row j) head) := by
  refine vext hp hr ((Vc.clr hp hh.1 hr).add' hp (hh.scl' hp)) fun k => ?_
  rw [cf_add (by rw [scl_len, (Vc.clr hp hh.1 hr).1, hh.1]), cf_scl, cf_clr hp hr hh.1]
  simp only [Int.emod_emod, Int.emod_add_emod, Int.add_emod_emod]
  congr 1
  grind
theorem In.sum (hA : Vcs p n A) {v w : List Int} (hv : In p n A v) (hw : In p n A w) : In p n A (mAdd p v w) := by
  induction hw with
  | zero => rw [add_zer hp (hv.vc hp hA)]; exact hv
  | add a h hr ih =>
    rw [add_assoc hp (hv.vc hp hA) (h.vc hp hA) ((hA _ hr).scl' hp)]
    exact .add a ih hr
theorem In.scl (hA : Vcs p n A) {b : Int} {v : List Int} (hv : In p n A v) : In p n A (mScl p b v) := by
  induction hv with
  | zero => rw [scl_zer hp]; exact .zero
  | add a h hr ih =>
    rw [scl_add hp (h.vc hp hA) ((hA _ hr).scl' hp), scl_scl hp (hA _ hr)]
    exact .add _ ih hr
theorem In.row (hA : Vcs p n A) (h2 : 2 ≤ p) {r : List Int} (hr : r ∈ A) : In p n A r := by
  have h := In.add (p := p) (n := n) (A := A) 1 .zero hr
  rw [zer_add hp ((hA _ hr).scl' hp), scl_1 hp (hA _ hr) (Int.emod_eq_of_lt (by omega) (by omega))] at h
  exact h
theorem In.mono (hB : Vcs p n B) (h : ∀ r ∈ A, In p n B r) {v : List Int} (hv : In p n A v) : In p n B v := by
  induction hv with
  | zero => exact .zero
  | add a _ hr ih => exact ih.sum hp hB ((h _ hr).scl hp hB)
end
theorem In.sub {p : Int} {n : Nat} {A B : List (List Int)} (h : ∀ r ∈ A, r ∈ B) {v : List Int} (hv : In p n A v) : In p n B v := by
  induction hv with
  | zero => exact .zero
  | add a _ hr ih => exact .add a ih (h _ hr)
/-! ### the span, listed -/
section
variable {p : Int} {n : Nat} {A : List (List Int)} {F : List (List Int)}
theorem mem_step {v r : List Int} (c : r ∉ F) : v ∈ spStep p F r ↔ ∃ w ∈ F, ∃ a : Nat, a < p.toNat ∧ v = mAdd p w (mScl p (a : Int) r) := by
  unfold spStep
  rw [if_neg c, List.mem_flatMap]
  constructor
  · rintro ⟨w, hw, h⟩
    obtain ⟨a, ha, e⟩ := List.mem_map.mp h
    exact ⟨w, hw, a, List.mem_range.mp ha, e.symm⟩
  · rintro ⟨w, hw, a, ha, e⟩
    exact ⟨w, hw, List.mem_map.mpr ⟨a, List.mem_range.mpr ha, e.symm⟩⟩
theorem step_in (h2 : 2 ≤ p) (hA : Vcs p n A) {r : List Int} (hr : Vc p n r) (hF : ∀ v, v ∈ F ↔ In p n A v) (v : List Int) : v ∈ spStep p F r ↔ In p n (A ++ [r]) v := by
  have hp : 0 < p := by omega
  have hA' : Vcs p n (A ++ [r]) := fun x hx => by
    rcases List.mem_append.mp hx with h | h
    · exact hA x h
    · rw [List.mem_singleton.mp h]; exact hr
  by_cases c : r ∈ F
  · unfold spStep
    rw [if_pos c, hF]
    refine ⟨fun h => h.sub fun x hx => List.mem_append_left _ hx, fun h => h.mono hp hA fun x hx => ?_⟩
    rcases List.mem_append.mp hx with h | h
    · exact In.row hp hA h2 h
    · rw [List.mem_singleton.mp h]; exact (hF r).mp c
  · rw [mem_step c]
    constructor
    · rintro ⟨w, hw, a, _, rfl⟩
      exact .add _ (((hF w).mp hw).sub fun x hx => List.mem_append_left _ hx) (List.mem_append_right _ (List.mem_singleton.mpr rfl))
    · intro h
      induction h with
      | zero => exact ⟨zer n, (hF _).mpr .zero, 0, by omega, by
          rw [show ((0 : Nat) : Int) = 0 from rfl, scl_0 hp hr, add_zer hp (Vc.zer hp)]⟩
      | add b h hx ih =>
        obtain ⟨w, hw, a, ha, e⟩ := ih
        have hwv := ((hF w).mp hw).vc hp hA
        rcases List.mem_append.mp hx with h | h
        · rename_i x _
          refine ⟨mAdd p w (mScl p b x), (hF _).mpr (.add b ((hF w).mp hw) h), a, ha, ?_⟩
          have hxv := hA _ h
          rw [e, ← add_assoc hp hwv (hr.scl' hp) (hxv.scl' hp), add_comm' hp (hr.scl' hp) (hxv.scl' hp), add_assoc hp hwv (hxv.scl' hp) (hr.scl' hp)]
        · rw [List.mem_singleton.mp h]
          refine ⟨w, hw, (((a : Int) + b) % p).toNat, ?_, ?_⟩
          · have := emod_in hp ((a : Int) + b)
            omega
          · rw [Int.toNat_of_nonneg (emod_in hp _).1, scl_mod hp hr, ← add_scl hp hr, e, add_assoc hp hwv (hr.scl' hp) (hr.scl' hp)]
theorem nodup_flatMap' {α β : Type} {f : α → List β} : ∀ {l : List α}, l.Nodup → (∀ a ∈ l, (f a).Nodup) → (∀ a ∈ l, ∀ b ∈ l, a ≠ b → ∀ x ∈ f a, x ∉ f b) → (l.flatMap f).Nodup
  | [], _, _, _ => by simp
  | a :: l, h, h1, h2 => by
    rw [List.flatMap_cons, List.nodup_append]
    rw [List.nodup_cons] at h
    refine ⟨h1 a List.mem_cons_self, nodup_flatMap' h.2 (fun b hb => h1 b (List.mem_cons_of_mem _ hb)) (fun b hb c hc => h2 b (List.mem_cons_of_mem _ hb) c (List.mem_cons_of_mem _ hc)), fun x hx y hy e => ?_⟩
    subst e
    obtain ⟨b, hb, hy⟩ := List.mem_flatMap.mp hy
    exact h2 a List.mem_cons_self b (List.mem_cons_of_mem _ hb) (fun e => h.1 (e ▸ hb)) x hx hy
theorem nodup_map' {α β : Type} {f : α → β} : ∀ {l : List α}, l.Nodup → (∀ a ∈ l, ∀ b ∈ l, f a = f b → a = b) → (l.map f).Nodup
  | [], _, _ => by simp
  | a :: l, h, h1 => by
    rw [List.map_cons, List.nodup_cons]
    rw [List.nodup_cons] at h
    refine ⟨fun hx => ?_, nodup_map' h.2 fun b hb c hc => h1 b (List.mem_cons_of_mem _ hb) c (List.mem_cons_of_mem _ hc)⟩
    obtain ⟨b, hb, e⟩ := List.mem_map.mp hx
    exact h.1 (h1 a List.mem_cons_self b (List.mem_cons_of_mem _ hb) e.symm ▸ hb)
/-- w + a r = w' + b r with a ≠ b: r is a sum of the rows -/
theorem step_uni (hP : PR p) (hA : Vcs p n A) {r w w' : List Int} (hr : Vc p n r) (hw : In p n A w) (hw' : In p n A w') {a b : Nat} (ha : a < p.toNat) (hb : b < p.toNat) (e : mAdd p w (mScl p (a : Int) r) = mAdd p w' (mScl p (b : Int) r)) (c : ¬ In p n A r) : a = b ∧ w = w' := by
  have hp := hP.pos
  have h2 := hP.two
  have hwv := hw.vc hp hA
  have hwv' := hw'.vc hp hA
  have ee : ∀ k, (cf w k + cf r k * a) % p = (cf w' k + cf r k * b) % p := fun k => by
    have h := congrArg (fun z => cf z k) e
    rw [cf_add (by rw [scl_len, hwv.1, hr.1]), cf_add (by rw [scl_len, hwv'.1, hr.1]), cf_scl, cf_scl, Int.add_emod_emod, Int.add_emod_emod] at h
    exact h
  have hab : a = b := by
    refine Decidable.byContradiction fun hne => c ?_
    have hd : ((a : Int) - b) % p ≠ 0 := by
      intro z
      have h3 := Int.ediv_mul_add_emod ((a : Int) - b) p
      rw [z] at h3
      have h4 : (a : Int) - b = ((a : Int) - b) / p * p := by omega
      generalize ((a : Int) - b) / p = q at h4
      have : q = 0 := by
        rcases Int.lt_trichotomy q 0 with h | h | h
        · have : q * p ≤ (-1) * p := Int.mul_le_mul_of_nonneg_right (by omega) (by omega)
          omega
        · exact h
        · have : 1 * p ≤ q * p := Int.mul_le_mul_of_nonneg_right (by omega) (by omega)
          omega
      rw [this] at h4
      omega
    obtain ⟨h5, h6, h7⟩ := mInv_ok hP hd
    have e2 : r = mScl p (mInv p ((a : Int) - b)) (mAdd p w' (mScl p (-1) w)) := by
      refine vext hp hr ((hwv'.add' hp (hwv.scl' hp)).scl' hp) fun k => ?_
      rw [cf_scl, cf_add (by rw [scl_len, hwv.1, hwv'.1]), cf_scl]
      have hk : (cf r k * ((a : Int) - b)) % p = (cf w' k - cf w k) % p := by
        have h8 := ee k
        rw [show cf r k * ((a : Int) - b) = (cf w k + cf r k * a) - (cf w k + cf r k * b) by grind, Int.sub_emod, h8, ← Int.sub_emod]
        congr 1
        grind
      simp only [Int.emod_emod, Int.add_emod_emod, em_l]
      rw [show (cf w' k + cf w k * -1) * mInv p ((a : Int) - b) = (cf w' k - cf w k) * mInv p ((a : Int) - b) by grind, ← em_l, ← hk, em_l, show cf r k * ((a : Int) - b) * mInv p ((a : Int) - b) = cf r k * (((a : Int) - b) * mInv p ((a : Int) - b)) by grind, ← em_r, h7, Int.mul_one]
    rw [e2]
    exact (hw'.sum hp hA (hw.scl hp hA)).scl hp hA
  refine ⟨hab, vext hp hwv hwv' fun k => ?_⟩
  have h8 := ee k
  rw [hab] at h8
  have h9 := congrArg (fun z => (z - cf r k * b) % p) h8
  rw [Int.emod_sub_emod, Int.emod_sub_emod] at h9
  rw [show cf w k = cf w k + cf r k * b - cf r k * b by grind, h9]
  congr 1
  grind
theorem step_nodup (hP : PR p) (hA : Vcs p n A) {r : List Int} (hr : Vc p n r) (hF : ∀ v, v ∈ F ↔ In p n A v) (hN : F.Nodup) : (spStep p F r).Nodup := by
  by_cases c : r ∈ F
  · unfold spStep
    rw [if_pos c]
    exact hN
  · have c2 : ¬ In p n A r := fun h => c ((hF r).mpr h)
    unfold spStep
    rw [if_neg c]
    refine nodup_flatMap' hN (fun w hw => nodup_map' List.nodup_range fun a ha b hb e => ?_) fun w hw w' hw' hne x hx hx' => ?_
    · exact (step_uni hP hA hr ((hF w).mp hw) ((hF w).mp hw) (List.mem_range.mp ha) (List.mem_range.mp hb) e c2).1
    · obtain ⟨a, ha, rfl⟩ := List.mem_map.mp hx
      obtain ⟨b, hb, e⟩ := List.mem_map.mp hx'
      exact hne (step_uni hP hA hr ((hF w).mp hw) ((hF w').mp hw') (List.mem_range.mp ha) (List.mem_range.mp hb) e.symm c2).2
theorem fold_in (hP : PR p) : ∀ {rows A F : List (List Int)}, Vcs p n A → Vcs p n rows → (∀ v, v ∈ F ↔ In p n A v) → F.Nodup → (∀ v, v ∈ rows.foldl (spStep p) F ↔ In p n (A ++ rows) v) ∧ (rows.foldl (spStep p) F).Nodup
  | [], A, F, hA, hR, hF, hN => ⟨by rw [List.append_nil]; exact hF, hN⟩
  | r :: rows, A, F, hA, hR, hF, hN => by
    have hr := hR r List.mem_cons_self
    have hA' : Vcs p n (A ++ [r]) := fun x hx => by
      rcases List.mem_append.mp hx with h | h
      · exact hA x h
      · rw [List.mem_singleton.mp h]; exact hr
    have h := fold_in hP (rows := rows) (A := A ++ [r]) (F := spStep p F r) hA' (fun x hx => hR x (List.mem_cons_of_mem _ hx)) (step_in hP.two hA hr hF) (step_nodup hP hA hr hF hN)
    rw [List.append_assoc, List.singleton_append] at h
    exact h
theorem mem_spanL (hP : PR p) {rows : List (List Int)} (hR : Vcs p n rows) (v : List Int) : v ∈ spanL p n rows ↔ In p n rows v :=
  (fold_in hP (A := []) (F := [zer n]) (fun x hx => absurd hx (by simp)) hR (fun v => by
    rw [List.mem_singleton]
    refine ⟨fun e => by rw [e]; exact .zero, fun h => ?_⟩
    cases h with
    | zero => rfl
    | add a _ h => exact absurd h (by simp)) (by simp)).1 v
theorem nodup_spanL (hP : PR p) {rows : List (List Int)} (hR : Vcs p n rows) : (spanL p n rows).Nodup :=
  (fold_in hP (A := []) (F := [zer n]) (fun x hx => absurd hx (by simp)) hR (fun v => by
    rw [List.mem_singleton]
    refine ⟨fun e => by rw [e]; exact .zero, fun h => ?_⟩
    cases h with
    | zero => rfl
    | add a _ h => exact absurd h (by simp)) (by simp)).2
theorem mSpan_in (hP : PR p) {rows : List (List Int)} (hR : Vcs p n rows) (v : List Int) : v ∈ mSpan p n rows ↔ In p n rows v := mem_mSpan.trans (mem_spanL hP hR v)
end
theorem leR_iff (a b : List Int) : SortR.leR a b = true ↔ a ≤ b := by
  unfold SortR.leR
  exact decide_eq_true_iff
theorem mSpan_eq {p : Int} {n : Nat} (hP : PR p) {A B : List (List Int)} (hA : Vcs p n A) (hB : Vcs p n B) (h : ∀ v, In p n A v ↔ In p n B v) : mSpan p n A = mSpan p n B := by
  have tr : ∀ a b c : List Int, SortR.leR a b = true → SortR.leR b c = true → SortR.leR a c = true := fun a b c h1 h2 => (leR_iff _ _).mpr (List.le_trans ((leR_iff _ _).mp h1) ((leR_iff _ _).mp h2))
  have to : ∀ a b : List Int, (SortR.leR a b || SortR.leR b a) = true := fun a b => by
    rcases List.le_total a b with h | h
    · rw [(leR_iff _ _).mpr h]; rfl
    · rw [(leR_iff _ _).mpr h, Bool.or_true]
  unfold mSpan
  refine List.Perm.eq_of_pairwise (le := fun a b => SortR.leR a b = true) (fun a b _ _ h1 h2 => List.le_antisymm ((leR_iff _ _).mp h1) ((leR_iff _ _).mp h2)) (List.pairwise_mergeSort tr to _) (List.pairwise_mergeSort tr to _) ?_
  refine (List.mergeSort_perm _ _).trans (List.Perm.trans ?_ (List.mergeSort_perm _ _).symm)
  rw [List.perm_ext_iff_of_nodup (nodup_spanL hP hA) (nodup_spanL hP hB)]
  intro v
  rw [mem_spanL hP hA, mem_spanL hP hB, h v]
/-! ### one step of the reduction keeps the sums -/
theorem mem_erase_or {α : Type} (d : α) : ∀ {l : List α} {h : Nat} {x : α}, x ∈ l → x = l.getD h d ∨ x ∈ l.eraseIdx h
  | [], _, _, e => absurd e (by simp)
  | a :: l, 0, x, e => by
    rcases List.mem_cons.mp e with e | e
    · exact .inl e
    · exact .inr e
  | a :: l, h + 1, x, e => by
    rw [List.eraseIdx_cons_succ]
    rcases List.mem_cons.mp e with e | e
    · exact .inr (e ▸ List.mem_cons_self)
    · rcases mem_erase_or d (h := h) e with e | e
      · exact .inl e
      · exact .inr (List.mem_cons_of_mem _ e)
def rAll (s : RS) : List (List Int) := s.left ++ s.found
theorem RSok.all {p : Int} {n m : Nat} {s : RS} (h : RSok p n m s) : Vcs p n (rAll s) := fun x hx => by
  rcases List.mem_append.mp hx with h1 | h1
  · exact h.l x h1
  · exact h.f x h1
theorem rStep_in {p : Int} {n m j : Nat} {s : RS} (hP : PR p) (h : RSok p n m s) (v : List Int) : In p n (rAll (rStep p s j)) v ↔ In p n (rAll s) v := by
  have hp := hP.pos
  have h2 := hP.two
  have h' := rStep_ok (j := j) hp h
  cases e : hds s.left j with
  | nil => rw [rStep_nil e]
  | cons k t =>
    obtain ⟨g1, g2⟩ := hds_mem (by rw [e]; exact List.mem_cons_self : k ∈ hds s.left j)
    have hv := h.l _ (getD_memL g1)
    have hc := (hv.cf hp j)
    have g3 : cf (s.left.getD k []) j % p ≠ 0 := by rw [hv.md hp j]; exact g2
    have hi := mInv_ok hP g3
    have hA := h.all
    have hB := h'.all
    rw [rStep_cons e] at hB ⊢
    rw [cf_def] at hB ⊢
    generalize hhd : s.left.getD k [] = hd at *
    have hm : hd ∈ rAll s := List.mem_append_left _ (hhd ▸ getD_memL g1)
    have hI : In p n (rAll s) (mScl p (mInv p (cf hd j)) hd) := (In.row hp hA h2 hm).scl hp hA
    have hh : Vc p n (mScl p (mInv p (cf hd j)) hd) := hv.scl' hp
    have hback : mScl p (cf hd j) (mScl p (mInv p (cf hd j)) hd) = hd := by
      rw [scl_scl hp hv]
      exact scl_1 hp hv (by rw [Int.mul_comm]; exact hi.2.2)
    generalize mScl p (mInv p (cf hd j)) hd = head at *
    have hnew : head ∈ rAll ⟨(s.left.eraseIdx k).map (mClr p j head), s.found.map (mClr p j head) ++ [head], s.piv ++ [(j : Int)]⟩ := List.mem_append_right _ (List.mem_append_right _ (List.mem_singleton.mpr rfl))
    have clr : ∀ r, r ∈ rAll s → In p n (rAll s) (mClr p j head r) := fun r hr => by
      rw [clr_add hp hh (hA _ hr)]
      exact (In.row hp hA h2 hr).sum hp hA (hI.scl hp hA)
    refine ⟨fun hv => hv.mono hp hA fun r hr => ?_, fun hv => hv.mono hp hB fun r hr => ?_⟩
    · rcases List.mem_append.mp hr with hr | hr
      · obtain ⟨x, hx, rfl⟩ := List.mem_map.mp hr
        exact clr x (List.mem_append_left _ (List.mem_of_mem_eraseIdx hx))
      · rcases List.mem_append.mp hr with hr | hr
        · obtain ⟨x, hx, rfl⟩ := List.mem_map.mp hr
          exact clr x (List.mem_append_right _ hx)
        · rw [List.mem_singleton.mp hr]
          exact hI
    · have back : mClr p j head r ∈ rAll ⟨(s.left.eraseIdx k).map (mClr p j head), s.found.map (mClr p j head) ++ [head], s.piv ++ [(j : Int)]⟩ → In p n (rAll ⟨(s.left.eraseIdx k).map (mClr p j head), s.found.map (mClr p j head) ++ [head], s.piv ++ [(j : Int)]⟩) r := fun hm => by
        rw [clr_back (j := j) hp hh (hA r hr)]
        exact (In.row hp hB h2 hm).sum hp hB ((In.row hp hB h2 hnew).scl hp hB)
      rcases List.mem_append.mp hr with hr' | hr'
      · rcases mem_erase_or [] (h := k) hr' with e1 | e1
        · rw [e1, hhd, ← hback]
          exact (In.row hp hB h2 hnew).scl hp hB
        · exact back (List.mem_append_left _ (List.mem_map.mpr ⟨r, e1, rfl⟩))
      · exact back (List.mem_append_right _ (List.mem_append_left _ (List.mem_map.mpr ⟨r, hr', rfl⟩)))
theorem rRun_in {p : Int} {n : Nat} {rows : List (List Int)} (hP : PR p) (h : Vcs p n rows) (v : List Int) : ∀ k, In p n (rAll (rRun p rows k)) v ↔ In p n rows v
  | 0 => by
    show In p n (rows ++ []) v ↔ _
    rw [List.append_nil]
  | k + 1 => by
    rw [rRun_succ, rStep_in hP (rRun_ok hP.pos h k), rRun_in hP h v k]
/-! ### the form -/
structure RF (j : Nat) (s : RS) : Prop where
  left0 : ∀ r ∈ s.left, ∀ k, k < j → cf r k = 0
  pn : ∀ i, i < s.found.length → ∃ q : Nat, s.piv[i]? = some (q : Int) ∧ q < j ∧ (∀ k, k < q → cf (s.found.getD i []) k = 0) ∧ cf (s.found.getD i []) q = 1 ∧ ∀ i', i' < s.found.length → i' ≠ i → cf (s.found.getD i' []) q = 0
  inc : ∀ (i i' : Nat) (q q' : Int), i < i' → s.piv[i]? = some q → s.piv[i']? = some q' → q < q'
theorem getD_app1 {α : Type} (d : α) {l m : List α} {i : Nat} (h : i < l.length) : (l ++ m).getD i d = l.getD i d := by
  rw [List.getD_eq_getElem?_getD, List.getD_eq_getElem?_getD, List.getElem?_append_left h]
theorem getD_app2 {α : Type} (d : α) {l : List α} {x : α} : (l ++ [x]).getD l.length d = x := by
  rw [List.getD_eq_getElem?_getD, List.getElem?_append_right (Nat.le_refl _), Nat.sub_self]
  rfl
theorem getD_map' {α β : Type} (f : α → β) (d : α) (e : β) {l : List α} {i : Nat} (h : i < l.length) : (l.map f).getD i e = f (l.getD i d) := by
  rw [List.getD_eq_getElem?_getD, List.getElem?_map, List.getElem?_eq_getElem h, List.getD_eq_getElem?_getD, List.getElem?_eq_getElem h]
  rfl
theorem rStep_rf {p : Int} {n m j : Nat} {s : RS} (hP : PR p) (h : RSok p n m s) (hf : RF j s) : RF (j + 1) (rStep p s j) := by
  have hp := hP.pos
  have h2 := hP.two
  cases e : hds s.left j with
  | nil =>
    rw [rStep_nil e]
    refine ⟨fun r hr k hk => ?_, fun i hi => ?_, hf.inc⟩
    · by_cases c : k = j
      · subst c
        refine Decidable.byContradiction fun hne => ?_
        obtain ⟨i, hi, rfl⟩ := List.getElem_of_mem hr
        have : i ∈ hds s.left k := by
          unfold hds
          refine List.mem_filter.mpr ⟨List.mem_range.mpr hi, ?_⟩
          rw [List.getD_eq_getElem?_getD (l := s.left), List.getElem?_eq_getElem hi, cf_def]
          simpa using hne
        rw [e] at this
        cases this
      · exact hf.left0 r hr k (by omega)
    · obtain ⟨q, h1, h2, h3⟩ := hf.pn i hi
      exact ⟨q, h1, by omega, h3⟩
  | cons k t =>
    obtain ⟨g1, g2⟩ := hds_mem (by rw [e]; exact List.mem_cons_self : k ∈ hds s.left j)
    have hv := h.l _ (getD_memL g1)
    have hv0 := hf.left0 _ (getD_memL g1)
    have g3 : cf (s.left.getD k []) j % p ≠ 0 := by rw [hv.md hp j]; exact g2
    have hi := mInv_ok hP g3
    rw [rStep_cons e]
    rw [cf_def]
    generalize s.left.getD k [] = hd at *
    have hh : Vc p n (mScl p (mInv p (cf hd j)) hd) := hv.scl' hp
    have hh0 : ∀ k, k < j → cf (mScl p (mInv p (cf hd j)) hd) k = 0 := fun k hk => by
      rw [cf_scl, hv0 k hk, Int.zero_mul, Int.zero_emod]
    have hh1 : cf (mScl p (mInv p (cf hd j)) hd) j = 1 := by
      rw [cf_scl]
      exact hi.2.2
    generalize mScl p (mInv p (cf hd j)) hd = head at *
    have cj : ∀ r, Vc p n r → cf (mClr p j head r) j = 0 := fun r hr => by
      rw [cf_clr hp hr hh.1, hh1, Int.mul_one, Int.sub_self, Int.zero_emod]
    have ck : ∀ r, Vc p n r → ∀ k, k < j → cf (mClr p j head r) k = cf r k := fun r hr k hk => by
      rw [cf_clr hp hr hh.1, hh0 k hk, Int.mul_zero, Int.sub_zero, hr.md hp]
    have hlen : (s.found.map (mClr p j head)).length = s.found.length := List.length_map _
    have hpl := h.pl
    have gf : ∀ i, i < s.found.length → (s.found.map (mClr p j head) ++ [head]).getD i [] = mClr p j head (s.found.getD i []) := fun i hi => by
      rw [getD_app1 _ (by rw [hlen]; exact hi), getD_map' _ [] _ hi]
    have gl : (s.found.map (mClr p j head) ++ [head]).getD s.found.length [] = head := by
      have := getD_app2 ([] : List Int) (l := s.found.map (mClr p j head)) (x := head)
      rwa [hlen] at this
    refine ⟨fun r hr k hk => ?_, fun i hi => ?_, fun i i' q q' hii hq hq' => ?_⟩
    · obtain ⟨x, hx, rfl⟩ := List.mem_map.mp hr
      have hx' := List.mem_of_mem_eraseIdx hx
      have hxv := h.l x hx'
      by_cases c : k = j
      · subst c
        exact cj x hxv
      · rw [ck x hxv k (by omega)]
        exact hf.left0 x hx' k (by omega)
    · rw [List.length_append, hlen, List.length_singleton] at hi
      show ∃ q : Nat, (s.piv ++ [(j : Int)])[i]? = some (q : Int) ∧ _
      by_cases c : i < s.found.length
      · obtain ⟨q, h1, h2, h3, h4, h5⟩ := hf.pn i c
        have hxv := h.f _ (getD_memL c)
        refine ⟨q, by rw [List.getElem?_append_left (by omega)]; exact h1, by omega, fun k hk => ?_, ?_, fun i' hi' hne => ?_⟩
        · rw [gf i c, ck _ hxv k (by omega)]
          exact h3 k hk
        · rw [gf i c, ck _ hxv q h2]
          exact h4
        · rw [List.length_append, hlen, List.length_singleton] at hi'
          by_cases c' : i' < s.found.length
          · rw [gf i' c', ck _ (h.f _ (getD_memL c')) q h2]
            exact h5 i' c' hne
          · have : i' = s.found.length := by omega
            rw [this, gl]
            exact hh0 q h2
      · have ei : i = s.found.length := by omega
        rw [ei]
        refine ⟨j, by rw [← hpl, List.getElem?_append_right (Nat.le_refl _), Nat.sub_self]; rfl, by omega, fun k hk => by rw [gl]; exact hh0 k hk, by rw [gl]; exact hh1, fun i' hi' hne => ?_⟩
        rw [List.length_append, hlen, List.length_singleton] at hi'
        have c' : i' < s.found.length := by omega
        rw [gf i' c']
        exact cj _ (h.f _ (getD_memL c'))
    · by_cases c : i' < s.piv.length
      · rw [List.getElem?_append_left (by omega)] at hq
        rw [List.getElem?_append_left c] at hq'
        exact hf.inc i i' q q' hii hq hq'
      · have hl2 : i' < (s.piv ++ [(j : Int)]).length := by
          refine Nat.lt_of_not_le fun z => ?_
          rw [List.getElem?_eq_none z] at hq'
          cases hq'
        rw [List.length_append, List.length_singleton] at hl2
        have ei : i' = s.piv.length := by omega
        rw [ei, List.getElem?_append_right (Nat.le_refl _), Nat.sub_self] at hq'
        have eq' : q' = (j : Int) := by simpa using hq'.symm
        rw [List.getElem?_append_left (by omega)] at hq
        obtain ⟨q0, h1, h2, _⟩ := hf.pn i (by omega)
        rw [h1] at hq
        have eq : (q0 : Int) = q := by simpa using hq
        omega
theorem rRun_rf {p : Int} {n : Nat} {rows : List (List Int)} (hP : PR p) (h : Vcs p n rows) : ∀ k, RF k (rRun p rows k)
  | 0 => ⟨fun r hr k hk => absurd hk (Nat.not_lt_zero k), fun i hi => absurd hi (Nat.not_lt_zero i), fun i i' q q' _ h1 _ => absurd h1 (by simp [rRun])⟩
  | k + 1 => by
    rw [rRun_succ]
    exact rStep_rf hP (rRun_ok hP.pos h k) (rRun_rf hP h k)
/-- a row's first item that is not 0 -/
theorem lead {v : List Int} {q : Nat} (h0 : ∀ k, k < q → cf v k = 0) (h1 : cf v q ≠ 0) : nz v ≠ [] ∧ mPv v = q := by
  have hq : q < v.length := Nat.lt_of_not_le fun z => h1 (cf_ge z)
  have hm : q ∈ nz v := by
    unfold nz
    exact List.mem_filter.mpr ⟨List.mem_range.mpr hq, by rw [cf_def]; simpa using h1⟩
  have hne : nz v ≠ [] := fun z => by rw [z] at hm; cases hm
  refine ⟨hne, ?_⟩
  have h3 := nz_mem (mPv_mem hne)
  have h4 : q ≤ mPv v := Nat.le_of_not_lt fun z => h3.2 (h0 _ z)
  have hs : (nz v).Pairwise (· < ·) := by
    unfold nz
    exact List.Pairwise.filter _ List.pairwise_lt_range
  have h5 : mPv v ≤ q := by
    unfold mPv
    cases e : nz v with
    | nil => exact absurd e hne
    | cons a t =>
      rw [e] at hm hs
      rcases List.mem_cons.mp hm with h | h
      · exact Nat.le_of_eq h.symm
      · exact Nat.le_of_lt ((List.pairwise_cons.mp hs).1 q h)
  omega
theorem red_form {p : Int} {n : Nat} {rows : List (List Int)} (hP : PR p) (h : Vcs p n rows) : InForm n (mRed p n rows) ∧ mPiv p n rows = (mRed p n rows).map fun r => (mPv r : Int) := by
  have hf := rRun_rf hP h n
  have ho := rRun_ok hP.pos h n
  have key : ∀ i, i < (mRed p n rows).length → nz ((mRed p n rows).getD i []) ≠ [] ∧ (rRun p rows n).piv[i]? = some (mPv ((mRed p n rows).getD i []) : Int) ∧ cf ((mRed p n rows).getD i []) (mPv ((mRed p n rows).getD i [])) = 1 ∧ ∀ i', i' < (mRed p n rows).length → i' ≠ i → cf ((mRed p n rows).getD i' []) (mPv ((mRed p n rows).getD i [])) = 0 := fun i hi => by
    obtain ⟨q, h1, h2, h3, h4, h5⟩ := hf.pn i hi
    obtain ⟨h6, h7⟩ := lead (v := (mRed p n rows).getD i []) h3 (by show cf ((rRun p rows n).found.getD i []) q ≠ 0; rw [h4]; decide)
    rw [h7]
    exact ⟨h6, h1, h4, h5⟩
  refine ⟨⟨fun i hi => (ho.f _ (getD_memL hi)).1, fun i hi => (key i hi).1, fun i hi => (key i hi).2.2.1, fun i j hij hj => ?_, fun i k hi hk hne => (key i hi).2.2.2 k hk hne⟩, ?_⟩
  · have h1 := hf.inc i j _ _ hij (key i (by omega)).2.1 (key j hj).2.1
    omega
  · refine List.ext_getElem? fun i => ?_
    by_cases c : i < (mRed p n rows).length
    · show (rRun p rows n).piv[i]? = _
      rw [(key i c).2.1, List.getElem?_map, List.getElem?_eq_getElem c, List.getD_eq_getElem?_getD, List.getElem?_eq_getElem c]
      rfl
    · have hpl := ho.pl
      rw [List.getElem?_eq_none (by show (rRun p rows n).piv.length ≤ i; rw [hpl]; exact Nat.le_of_not_lt c), List.getElem?_eq_none (by rw [List.length_map]; exact Nat.le_of_not_lt c)]
theorem red_vcs {p : Int} {n : Nat} {rows : List (List Int)} (hP : PR p) (h : Vcs p n rows) : Vcs p n (mRed p n rows) := (rRun_ok hP.pos h n).f
theorem red_len {p : Int} {n : Nat} {rows : List (List Int)} (hP : PR p) (h : Vcs p n rows) : (mRed p n rows).length ≤ rows.length := by
  have := (rRun_ok hP.pos h n).len
  show (rRun p rows n).found.length ≤ _
  omega
theorem red_in {p : Int} {n : Nat} {rows : List (List Int)} (hP : PR p) (h : Vcs p n rows) (v : List Int) : In p n (mRed p n rows) v ↔ In p n rows v := by
  have hp := hP.pos
  rw [← rRun_in hP h v n]
  have ho := rRun_ok hp h n
  have hf := rRun_rf hP h n
  refine ⟨fun hv => hv.sub fun x hx => List.mem_append_right _ hx, fun hv => hv.mono hp ho.f fun r hr => ?_⟩
  rcases List.mem_append.mp hr with hr | hr
  · have hrv := ho.l r hr
    rw [vext0 hrv.1 (Vc.zer hp : Vc p n _).1 fun k hk => by rw [hf.left0 r hr k hk, cf_zer]]
    exact .zero
  · exact In.row hp ho.f hP.two hr
/-! ### the rest of a row -/
theorem mRest_cons (p : Int) (r : List Int) (l : List (List Int)) (v : List Int) : mRest p (r :: l) v = mRest p l (mClr p (mPv r) r v) := rfl
theorem mRest_app (p : Int) (l m : List (List Int)) (v : List Int) : mRest p (l ++ m) v = mRest p m (mRest p l v) := by
  unfold mRest
  rw [List.foldl_append]
theorem rest_vc {p : Int} {n : Nat} (hp : 0 < p) : ∀ {l : List (List Int)} {v : List Int}, Vcs p n l → Vc p n v → Vc p n (mRest p l v)
  | [], _, _, h => h
  | r :: l, v, hl, h => rest_vc hp (l := l) (fun x hx => hl x (List.mem_cons_of_mem _ hx)) (Vc.clr hp (hl r List.mem_cons_self).1 h)
theorem clr_sum {p : Int} {n j : Nat} (hp : 0 < p) {h v w : List Int} {a : Int} (hh : Vc p n h) (hv : Vc p n v) (hw : Vc p n w) : mClr p j h (mAdd p v (mScl p a w)) = mAdd p (mClr p j h v) (mScl p a (mClr p j h w)) := by
  have hs := hv.add' hp (hw.scl' (a := a) hp)
  have h1 : Vc p n (mClr p j h v) := Vc.clr hp hh.1 hv
  have h2 : Vc p n (mClr p j h w) := Vc.clr hp hh.1 hw
  refine vext hp (Vc.clr hp hh.1 hs) (h1.add' hp (h2.scl' hp)) fun k => ?_
  have a1 : ∀ k, cf (mAdd p v (mScl p a w)) k = (cf v k + cf w k * a) % p := fun k => by rw [cf_add (by rw [scl_len, hv.1, hw.1]), cf_scl, Int.add_emod_emod]
  have a2 : cf (mAdd p (mClr p j h v) (mScl p a (mClr p j h w))) k = (cf (mClr p j h v) k + cf (mClr p j h w) k * a) % p := by rw [cf_add (by rw [scl_len, h1.1, h2.1]), cf_scl, Int.add_emod_emod]
  rw [cf_clr hp hs hh.1, a1, a1, a2, cf_clr hp hv hh.1, cf_clr hp hw hh.1]
  simp only [Int.emod_emod, Int.emod_add_emod, Int.add_emod_emod, Int.emod_sub_emod, Int.sub_emod_emod, em_l, em_sl, em_al]
  congr 1
  grind
theorem rest_sum {p : Int} {n : Nat} (hp : 0 < p) {a : Int} : ∀ {l : List (List Int)} {v w : List Int}, Vcs p n l → Vc p n v → Vc p n w → mRest p l (mAdd p v (mScl p a w)) = mAdd p (mRest p l v) (mScl p a (mRest p l w))
  | [], _, _, _, _, _ => rfl
  | r :: l, v, w, hl, hv, hw => by
    have hr := hl r List.mem_cons_self
    rw [mRest_cons, clr_sum hp hr hv hw]
    exact rest_sum hp (l := l) (fun x hx => hl x (List.mem_cons_of_mem _ hx)) (Vc.clr hp hr.1 hv) (Vc.clr hp hr.1 hw)
/-- nothing is cleared where the pivots hold 0 -/
theorem rest_id {p : Int} : ∀ {l : List (List Int)} {v : List Int}, (∀ r ∈ l, cf v (mPv r) = 0) → mRest p l v = v
  | [], _, _ => rfl
  | r :: l, v, h => by
    rw [mRest_cons, show mClr p (mPv r) r v = v by unfold mClr; rw [if_pos (show v.getD (mPv r) 0 = 0 from h r List.mem_cons_self)]]
    exact rest_id fun x hx => h x (List.mem_cons_of_mem _ hx)
theorem rest_zer {p : Int} {n : Nat} (l : List (List Int)) : mRest p l (zer n) = zer n := rest_id fun r _ => cf_zer n _
/-- a place where all rows of l hold 0 stays -/
theorem rest_at {p : Int} {n q : Nat} (hp : 0 < p) : ∀ {l : List (List Int)} {v : List Int}, Vcs p n l → Vc p n v → (∀ r ∈ l, cf r q = 0) → cf (mRest p l v) q = cf v q
  | [], _, _, _, _ => rfl
  | r :: l, v, hl, hv, h => by
    have hr := hl r List.mem_cons_self
    rw [mRest_cons, rest_at hp (l := l) (fun x hx => hl x (List.mem_cons_of_mem _ hx)) (Vc.clr hp hr.1 hv) fun x hx => h x (List.mem_cons_of_mem _ hx), cf_clr hp hv hr.1, h r List.mem_cons_self, Int.mul_zero, Int.sub_zero, hv.md hp]
section
variable {p : Int} {n : Nat} {A : List (List Int)}
theorem InForm.split (hF : InForm n A) {i : Nat} (hi : i < A.length) : A = A.take i ++ A.getD i [] :: A.drop (i + 1) := by
  rw [List.getD_eq_getElem?_getD, List.getElem?_eq_getElem hi]
  show A = A.take i ++ A[i] :: A.drop (i + 1)
  rw [List.getElem_cons_drop, List.take_append_drop]
theorem InForm.pvs (hF : InForm n A) {r : List Int} (hr : r ∈ A) : ∃ i, i < A.length ∧ A.getD i [] = r := by
  obtain ⟨i, hi, e⟩ := List.getElem_of_mem hr
  refine ⟨i, hi, ?_⟩
  rw [List.getD_eq_getElem?_getD, List.getElem?_eq_getElem hi]
  exact e
theorem InForm.off1 (hF : InForm n A) {i : Nat} (hi : i < A.length) : (∀ r ∈ A.take i, cf r (mPv (A.getD i [])) = 0) ∧ (∀ r ∈ A.drop (i + 1), cf r (mPv (A.getD i [])) = 0) ∧ ∀ r ∈ A.take i, cf (A.getD i []) (mPv r) = 0 := by
  refine ⟨fun r hr => ?_, fun r hr => ?_, fun r hr => ?_⟩
  · obtain ⟨k, hk, e⟩ := List.getElem_of_mem hr
    rw [List.length_take] at hk
    rw [List.getElem_take] at e
    have := hF.off i k hi (by omega) (by omega)
    rw [List.getD_eq_getElem?_getD (l := A) (i := k), List.getElem?_eq_getElem (by omega)] at this
    rw [← e]
    exact this
  · obtain ⟨k, hk, e⟩ := List.getElem_of_mem hr
    rw [List.length_drop] at hk
    rw [List.getElem_drop] at e
    have := hF.off i (i + 1 + k) hi (by omega) (by omega)
    rw [List.getD_eq_getElem?_getD (l := A) (i := i + 1 + k), List.getElem?_eq_getElem (by omega)] at this
    rw [← e]
    exact this
  · obtain ⟨k, hk, e⟩ := List.getElem_of_mem hr
    rw [List.length_take] at hk
    rw [List.getElem_take] at e
    have := hF.off k i (by omega) hi (by omega)
    rw [List.getD_eq_getElem?_getD (l := A) (i := k), List.getElem?_eq_getElem (by omega)] at this
    rw [← e]
    exact this
/-- the rest holds 0 at the pivots -/
theorem rest_piv (hp : 0 < p) (hF : InForm n A) (hA : Vcs p n A) {v : List Int} (hv : Vc p n v) {i : Nat} (hi : i < A.length) : cf (mRest p A v) (mPv (A.getD i [])) = 0 := by
  have e : mRest p A v = mRest p (A.drop (i + 1)) (mClr p (mPv (A.getD i [])) (A.getD i []) (mRest p (A.take i) v)) := by
    rw [← mRest_cons, ← mRest_app, ← hF.split hi]
  have hr : Vc p n (A.getD i []) := hA _ (getD_memL hi)
  have h1 : Vc p n (mRest p (A.take i) v) := rest_vc hp (fun x hx => hA x (List.mem_of_mem_take hx)) hv
  rw [e, rest_at hp (fun x hx => hA x (List.mem_of_mem_drop hx)) (Vc.clr hp hr.1 h1) (hF.off1 hi).2.1, cf_clr hp h1 hr.1, show cf (A.getD i []) (mPv (A.getD i [])) = 1 from hF.one i hi, Int.mul_one, Int.sub_self, Int.zero_emod]
/-- a row of the table has the rest 0 -/
theorem rest_row (hp : 0 < p) (hF : InForm n A) (hA : Vcs p n A) {r : List Int} (hr : r ∈ A) : mRest p A r = zer n := by
  obtain ⟨i, hi, e⟩ := hF.pvs hr
  have hrv := hA _ hr
  have e2 : mRest p A r = mRest p (A.drop (i + 1)) (mClr p (mPv r) r (mRest p (A.take i) r)) := by
    rw [← mRest_cons, ← mRest_app, ← e, ← hF.split hi]
  rw [e2, rest_id (l := A.take i) (v := r) (by rw [← e]; exact (hF.off1 hi).2.2)]
  have e3 : mClr p (mPv r) r r = zer n := by
    refine vext hp (Vc.clr hp hrv.1 hrv) (Vc.zer hp) fun k => ?_
    rw [cf_clr hp hrv hrv.1, cf_zer, Int.emod_emod, show cf r (mPv r) = 1 from e ▸ hF.one i hi, Int.one_mul, Int.sub_self]
  rw [e3, rest_zer]
theorem rest_in (hp : 0 < p) (hF : InForm n A) (hA : Vcs p n A) {v : List Int} (h : In p n A v) : mRest p A v = zer n := by
  induction h with
  | zero => exact rest_zer A
  | add a h hr ih => rw [rest_sum hp hA (h.vc hp hA) (hA _ hr), ih, rest_row hp hF hA hr, scl_zer hp, add_zer hp (Vc.zer hp)]
/-- what is taken away is a sum of the rows -/
theorem rest_diff (hP : PR p) (hA : Vcs p n A) : ∀ {l : List (List Int)} {v : List Int}, (∀ r ∈ l, r ∈ A) → Vc p n v → ∃ u, In p n A u ∧ mRest p l v = mAdd p v u
  | [], v, _, hv => ⟨zer n, .zero, (add_zer hP.pos hv).symm⟩
  | r :: l, v, hl, hv => by
    have hp := hP.pos
    have hrA := hl r List.mem_cons_self
    have hr := hA r hrA
    obtain ⟨u, hu, e⟩ := rest_diff hP hA (l := l) (v := mClr p (mPv r) r v) (fun x hx => hl x (List.mem_cons_of_mem _ hx)) (Vc.clr hp hr.1 hv)
    have hs : In p n A (mScl p (-(cf v (mPv r))) r) := (In.row hp hA hP.two hrA).scl hp hA
    refine ⟨mAdd p (mScl p (-(cf v (mPv r))) r) u, hs.sum hp hA hu, ?_⟩
    rw [mRest_cons, e, clr_add hp hr hv, add_assoc hp hv (hr.scl' hp) (hu.vc hp hA)]
theorem rest_minus (hP : PR p) (hA : Vcs p n A) {v : List Int} (hv : Vc p n v) : In p n A (mAdd p v (mScl p (-1) (mRest p A v))) := by
  have hp := hP.pos
  obtain ⟨u, hu, e⟩ := rest_diff hP hA (l := A) (fun r h => h) hv
  have huv := hu.vc hp hA
  have e2 : mAdd p v (mScl p (-1) (mRest p A v)) = mScl p (-1) u := by
    rw [e]
    refine vext hp (hv.add' hp ((hv.add' hp huv).scl' hp)) (huv.scl' hp) fun k => ?_
    rw [cf_add (by rw [scl_len, (hv.add' hp huv).1, hv.1]), cf_scl, cf_scl, cf_add (by rw [hv.1, huv.1])]
    simp only [Int.emod_emod, Int.emod_add_emod, Int.add_emod_emod, em_l]
    congr 1
    grind
  rw [e2]
  exact hu.scl hp hA
theorem rest_iff (hP : PR p) (hF : InForm n A) (hA : Vcs p n A) {v : List Int} (hv : Vc p n v) : mRest p A v = zer n ↔ In p n A v := by
  refine ⟨fun e => ?_, rest_in hP.pos hF hA⟩
  have h := rest_minus hP hA hv
  rw [e, scl_zer hP.pos, add_zer hP.pos hv] at h
  exact h
theorem in_zero (hp : 0 < p) (hF : InForm n A) (hA : Vcs p n A) {v : List Int} (h : In p n A v) (h0 : ∀ r ∈ A, cf v (mPv r) = 0) : v = zer n := by
  rw [← rest_in hp hF hA h, rest_id h0]
/-- a sum of the rows begins at a pivot -/
theorem rest_low (hp : 0 < p) {q : Nat} : ∀ {l : List (List Int)} {v : List Int}, Vcs p n l → Vc p n v → (∀ k, k < q → cf v k = 0) → (∀ r ∈ l, nz r ≠ [] ∧ mPv r ≠ q) → cf (mRest p l v) q = cf v q
  | [], _, _, _, _, _ => rfl
  | r :: l, v, hl, hv, h0, h => by
    have hr := hl r List.mem_cons_self
    obtain ⟨h1, h2⟩ := h r List.mem_cons_self
    have hc : ∀ k, k ≤ q → cf (mClr p (mPv r) r v) k = cf v k := fun k hk => by
      rw [cf_clr hp hv hr.1]
      by_cases c : mPv r < q
      · rw [h0 _ c, Int.zero_mul, Int.sub_zero, hv.md hp]
      · have : cf r k = 0 := by
          refine Decidable.byContradiction fun hne => ?_
          have hkm : k < mPv r := by omega
          have hk2 : k ∈ nz r := by
            unfold nz
            exact List.mem_filter.mpr ⟨List.mem_range.mpr (Nat.lt_of_not_le fun z => hne (cf_ge z)), by rw [cf_def]; simpa using hne⟩
          have hs : (nz r).Pairwise (· < ·) := by
            unfold nz
            exact List.Pairwise.filter _ List.pairwise_lt_range
          unfold mPv at hkm
          cases e : nz r with
          | nil => exact h1 e
          | cons a t =>
            rw [e] at hk2 hs hkm
            rcases List.mem_cons.mp hk2 with h | h
            · exact absurd hkm (by rw [h]; exact Nat.lt_irrefl _)
            · exact absurd ((List.pairwise_cons.mp hs).1 k h) (Nat.lt_asymm hkm)
        rw [this, Int.mul_zero, Int.sub_zero, hv.md hp]
    rw [mRest_cons, rest_low hp (l := l) (fun x hx => hl x (List.mem_cons_of_mem _ hx)) (Vc.clr hp hr.1 hv) (fun k hk => by rw [hc k (by omega)]; exact h0 k hk) fun x hx => h x (List.mem_cons_of_mem _ hx), hc q (Nat.le_refl q)]
theorem nz_low {v : List Int} (hne : nz v ≠ []) : (∀ k, k < mPv v → cf v k = 0) ∧ cf v (mPv v) ≠ 0 := by
  refine ⟨fun k hk => Decidable.byContradiction fun hn => ?_, (nz_mem (mPv_mem hne)).2⟩
  have hk2 : k ∈ nz v := by
    unfold nz
    exact List.mem_filter.mpr ⟨List.mem_range.mpr (Nat.lt_of_not_le fun z => hn (cf_ge z)), by rw [cf_def]; simpa using hn⟩
  have hs : (nz v).Pairwise (· < ·) := by
    unfold nz
    exact List.Pairwise.filter _ List.pairwise_lt_range
  unfold mPv at hk
  cases e : nz v with
  | nil => exact hne e
  | cons a t =>
    rw [e] at hk2 hs hk
    rcases List.mem_cons.mp hk2 with h | h
    · exact absurd hk (by rw [h]; exact Nat.lt_irrefl _)
    · exact absurd ((List.pairwise_cons.mp hs).1 k h) (Nat.lt_asymm hk)
theorem in_lead (hp : 0 < p) (hF : InForm n A) (hA : Vcs p n A) {v : List Int} (h : In p n A v) (hne : nz v ≠ []) : ∃ r ∈ A, mPv r = mPv v := by
  refine Decidable.byContradiction fun c => ?_
  have hv := h.vc hp hA
  have hl := nz_low hne
  have h1 := rest_low hp (q := mPv v) hA hv hl.1 fun r hr => ⟨by
    obtain ⟨i, hi, e⟩ := hF.pvs hr
    rw [← e]
    exact hF.ne i hi, fun e => c ⟨r, hr, e⟩⟩
  rw [rest_in hp hF hA h, cf_zer] at h1
  exact hl.2 h1.symm
end
theorem sorted_eq : ∀ {l m : List Nat}, l.Pairwise (· < ·) → m.Pairwise (· < ·) → (∀ x, x ∈ l ↔ x ∈ m) → l = m
  | [], [], _, _, _ => rfl
  | [], b :: m, _, _, h => absurd ((h b).mpr List.mem_cons_self) (by simp)
  | a :: l, [], _, _, h => absurd ((h a).mp List.mem_cons_self) (by simp)
  | a :: l, b :: m, hl, hm, h => by
    rw [List.pairwise_cons] at hl hm
    have e : a = b := by
      rcases List.mem_cons.mp ((h a).mp List.mem_cons_self) with e | e
      · exact e
      · rcases List.mem_cons.mp ((h b).mpr List.mem_cons_self) with e2 | e2
        · exact e2.symm
        · exact absurd (hm.1 a e) (Nat.lt_asymm (hl.1 b e2))
    subst e
    rw [sorted_eq hl.2 hm.2 fun x => ⟨fun hx => ?_, fun hx => ?_⟩]
    · rcases List.mem_cons.mp ((h x).mp (List.mem_cons_of_mem _ hx)) with e | e
      · exact absurd (hl.1 x hx) (by rw [e]; exact Nat.lt_irrefl _)
      · exact e
    · rcases List.mem_cons.mp ((h x).mpr (List.mem_cons_of_mem _ hx)) with e | e
      · exact absurd (hm.1 x hx) (by rw [e]; exact Nat.lt_irrefl _)
      · exact e
theorem InForm.sorted {n : Nat} {A : List (List Int)} (hF : InForm n A) : (A.map mPv).Pairwise (· < ·) := by
  rw [List.pairwise_iff_getElem]
  intro i j hi hj hij
  rw [List.length_map] at hi hj
  have := hF.inc i j hij hj
  rw [List.getD_eq_getElem?_getD, List.getElem?_eq_getElem hi, List.getD_eq_getElem?_getD, List.getElem?_eq_getElem hj] at this
  rw [List.getElem_map, List.getElem_map]
  exact this
/-- two reduced tables with the same sums are the same -/
theorem form_uni {p : Int} {n : Nat} (hP : PR p) {A B : List (List Int)} (fA : InForm n A) (fB : InForm n B) (hA : Vcs p n A) (hB : Vcs p n B) (h : ∀ v, In p n A v ↔ In p n B v) : A = B := by
  have hp := hP.pos
  have sub : ∀ {A B : List (List Int)}, InForm n A → InForm n B → Vcs p n A → Vcs p n B → (∀ v, In p n A v ↔ In p n B v) → ∀ x, x ∈ A.map mPv → x ∈ B.map mPv := by
    intro A B fA fB hA hB h x hx
    obtain ⟨r, hr, rfl⟩ := List.mem_map.mp hx
    obtain ⟨i, hi, e⟩ := fA.pvs hr
    obtain ⟨s, hs, e2⟩ := in_lead hp fB hB ((h r).mp (In.row hp hA hP.two hr)) (by rw [← e]; exact fA.ne i hi)
    exact List.mem_map.mpr ⟨s, hs, e2⟩
  have e := sorted_eq fA.sorted fB.sorted fun x => ⟨sub fA fB hA hB h x, sub fB fA hB hA (fun v => (h v).symm) x⟩
  have el : A.length = B.length := by
    have := congrArg List.length e
    rwa [List.length_map, List.length_map] at this
  have ep : ∀ i, i < A.length → mPv (A.getD i []) = mPv (B.getD i []) := fun i hi => by
    have := congrArg (fun l => l[i]?) e
    rw [List.getElem?_map, List.getElem?_map, List.getElem?_eq_getElem hi, List.getElem?_eq_getElem (by omega : i < B.length)] at this
    rw [List.getD_eq_getElem?_getD, List.getElem?_eq_getElem hi, List.getD_eq_getElem?_getD, List.getElem?_eq_getElem (by omega : i < B.length)]
    exact Option.some.inj this
  refine List.ext_getElem el fun i h1 h2 => ?_
  have ha := hA _ (getD_memL h1)
  have hb := hB _ (getD_memL h2)
  have hd : In p n A (mAdd p (A.getD i []) (mScl p (-1) (B.getD i []))) := (In.row hp hA hP.two (getD_memL h1)).sum hp hA (((h _).mpr (In.row hp hB hP.two (getD_memL h2))).scl hp hA)
  have hz := in_zero hp fA hA hd fun r hr => by
    obtain ⟨k, hk, e⟩ := fA.pvs hr
    rw [cf_add (by rw [scl_len, ha.1, hb.1]), cf_scl, ← e]
    by_cases c : k = i
    · subst c
      rw [show cf (A.getD k []) (mPv (A.getD k [])) = 1 from fA.one k hk, ep k hk, show cf (B.getD k []) (mPv (B.getD k [])) = 1 from fB.one k h2, Int.add_emod_emod]
      simp
    · rw [show cf (A.getD i []) (mPv (A.getD k [])) = 0 from fA.off k i hk h1 (fun z => c z.symm), ep k hk, show cf (B.getD i []) (mPv (B.getD k [])) = 0 from fB.off k i (by omega) h2 (fun z => c z.symm)]
      simp
  have e3 : A.getD i [] = B.getD i [] := by
    refine vext hp ha hb fun k => ?_
    have := congrArg (fun z => cf z k) hz
    rw [cf_zer, cf_add (by rw [scl_len, ha.1, hb.1]), cf_scl, Int.add_emod_emod] at this
    rw [show cf (A.getD i []) k = (cf (A.getD i []) k + cf (B.getD i []) k * -1) + cf (B.getD i []) k by grind, ← Int.emod_add_emod, this, Int.zero_add]
  rw [List.getD_eq_getElem?_getD, List.getElem?_eq_getElem h1, List.getD_eq_getElem?_getD, List.getElem?_eq_getElem h2] at e3
  exact e3
theorem red_uni {p : Int} {n : Nat} (hP : PR p) {A B : List (List Int)} (hA : Vcs p n A) (hB : Vcs p n B) (h : ∀ v, In p n A v ↔ In p n B v) : mRed p n A = mRed p n B ∧ mPiv p n A = mPiv p n B := by
  have e : mRed p n A = mRed p n B := form_uni hP (red_form hP hA).1 (red_form hP hB).1 (red_vcs hP hA) (red_vcs hP hB) fun v => by rw [red_in hP hA, red_in hP hB, h]
  exact ⟨e, by rw [(red_form hP hA).2, (red_form hP hB).2, e]⟩
/-- the table's rows in the other order -/
theorem red_rev {p : Int} {n : Nat} (hP : PR p) {rows : List (List Int)} (h : Vcs p n rows) : mRed p n (mRed p n rows).reverse = mRed p n rows ∧ mPiv p n (mRed p n rows).reverse = mPiv p n rows := by
  refine red_uni hP (fun x hx => red_vcs hP h x (List.mem_reverse.mp hx)) h fun v => ?_
  rw [← red_in hP h]
  exact ⟨fun hv => hv.sub fun x hx => List.mem_reverse.mp hx, fun hv => hv.sub fun x hx => List.mem_reverse.mpr hx⟩
theorem red_nil (p : Int) (n : Nat) : mRed p n [] = [] ∧ mPiv p n [] = [] := by
  have key : ∀ k, rRun p [] k = ⟨[], [], []⟩ := by
    intro k
    induction k with
    | zero => rfl
    | succ k ih => rw [rRun_succ, ih]; rfl
  unfold mRed mPiv
  rw [key]
  exact ⟨rfl, rfl⟩
end Dl
set_option Elab.async false
set_option linter.all false
set_option maxHeartbeats 2000000
/-! LinKer: counting spans, all rows, products of rows, the kernel. No program in sight. -/
namespace Dl
open PySem L2
/-! ### counting -/
theorem nodup_sub_len {α : Type} [DecidableEq α] : ∀ {l m : List α}, l.Nodup → (∀ x ∈ l, x ∈ m) → l.length ≤ m.length
  | [], _, _, _ => Nat.zero_le _
  | a :: l, m, h, hs => by
    rw [List.nodup_cons] at h
    have ha := hs a List.mem_cons_self
    have h2 := nodup_sub_len (l := l) (m := m.erase a) h.2 fun x hx => (List.mem_erase_of_ne fun e => h.1 (by rw [← e]; exact hx)).mpr (hs x (List.mem_cons_of_mem _ hx))
    rw [List.length_erase_of_mem ha] at h2
    have := List.length_pos_of_mem ha
    rw [List.length_cons]
    omega
theorem nodup_all {α : Type} [DecidableEq α] {l m : List α} (h : l.Nodup) (hs : ∀ x ∈ l, x ∈ m) (hl : m.length ≤ l.length) : ∀ x ∈ m, x ∈ l := by
  intro x hx
  refine Decidable.byContradiction fun c => ?_
  have := nodup_sub_len (l := x :: l) (m := m) (List.nodup_cons.mpr ⟨c, h⟩) fun y hy => by
    rcases List.mem_cons.mp hy with e | e
    · rw [e]; exact hx
    · exact hs y e
  rw [List.length_cons] at this
  omega
section
variable {p : Int} {n : Nat}
theorem spanL_count_le (hP : PR p) {A B : List (List Int)} (hA : Vcs p n A) (hB : Vcs p n B) (h : ∀ v, In p n A v → In p n B v) : (spanL p n A).length ≤ (spanL p n B).length :=
  nodup_sub_len (nodup_spanL hP hA) fun x hx => (mem_spanL hP hB x).mpr (h x ((mem_spanL hP hA x).mp hx))
theorem spanL_count (hP : PR p) {A B : List (List Int)} (hA : Vcs p n A) (hB : Vcs p n B) (h : ∀ v, In p n A v ↔ In p n B v) : (spanL p n A).length = (spanL p n B).length :=
  Nat.le_antisymm (spanL_count_le hP hA hB fun v hv => (h v).mp hv) (spanL_count_le hP hB hA fun v hv => (h v).mpr hv)
/-- each row has a place of its own -/
def Priv (A : List (List Int)) (pos : Nat → Nat) : Prop := ∀ i, i < A.length → cf (A.getD i []) (pos i) ≠ 0 ∧ ∀ k, k < A.length → k ≠ i → cf (A.getD k []) (pos i) = 0
theorem in_at0 (hp : 0 < p) {A : List (List Int)} (hA : Vcs p n A) {q : Nat} (h : ∀ r ∈ A, cf r q = 0) {v : List Int} (hv : In p n A v) : cf v q = 0 := by
  induction hv with
  | zero => exact cf_zer n q
  | add a hw hr ih => rw [cf_add (by rw [scl_len, (hw.vc hp hA).1, (hA _ hr).1]), cf_scl, ih, h _ hr, Int.zero_mul, Int.zero_emod, Int.add_zero, Int.zero_emod]
theorem spanL_priv (hP : PR p) {A : List (List Int)} {pos : Nat → Nat} (hA : Vcs p n A) (h : Priv A pos) : ∀ i, i ≤ A.length → (spanL p n (A.take i)).length = p.toNat ^ i
  | 0, _ => by rw [List.take_zero]; rfl
  | i + 1, hi => by
    have hp := hP.pos
    have ih := spanL_priv hP hA h i (by omega)
    have hT : Vcs p n (A.take i) := fun x hx => hA x (List.mem_of_mem_take hx)
    have hr : Vc p n A[i] := hA _ (List.getElem_mem (by omega))
    have hg : A.getD i [] = A[i] := by
      rw [List.getD_eq_getElem?_getD, List.getElem?_eq_getElem (by omega : i < A.length)]
      rfl
    have c : A[i] ∉ spanL p n (A.take i) := by
      rw [mem_spanL hP hT]
      intro hin
      have h1 := (h i (by omega)).1
      rw [hg] at h1
      refine h1 (in_at0 hp hT (fun r hr => ?_) hin)
      obtain ⟨k, hk, e⟩ := List.getElem_of_mem hr
      rw [List.length_take] at hk
      rw [List.getElem_take] at e
      have h2 := (h i (by omega)).2 k (by omega) (by omega)
      rw [List.getD_eq_getElem?_getD (l := A) (i := k), List.getElem?_eq_getElem (by omega)] at h2
      rw [← e]
      exact h2
    rw [List.take_add_one, List.getElem?_eq_getElem (by omega : i < A.length), Option.toList_some, spanL_snoc]
    unfold spStep
    rw [if_neg c, flatMap_len _ p.toNat fun w => by rw [List.length_map, List.length_range], ih, Nat.pow_succ]
theorem count_priv (hP : PR p) {A : List (List Int)} {pos : Nat → Nat} (hA : Vcs p n A) (h : Priv A pos) : (spanL p n A).length = p.toNat ^ A.length := by
  have := spanL_priv hP hA h A.length (Nat.le_refl _)
  rwa [List.take_length] at this
theorem InForm.priv {A : List (List Int)} (hF : InForm n A) : Priv A fun i => mPv (A.getD i []) := fun i hi => ⟨by rw [show cf (A.getD i []) (mPv (A.getD i [])) = 1 from hF.one i hi]; decide, fun k hk hne => hF.off i k hi hk hne⟩
theorem pow_inj (hP : PR p) {a b : Nat} (h : p.toNat ^ a = p.toNat ^ b) : a = b := by
  have h2 : 1 < p.toNat := by have := hP.two; omega
  rcases Nat.lt_trichotomy a b with c | c | c
  · have := Nat.pow_lt_pow_right h2 c
    omega
  · exact c
  · have := Nat.pow_lt_pow_right h2 c
    omega
/-- the number of the rows of the reduced table -/
theorem count_red (hP : PR p) {rows : List (List Int)} (h : Vcs p n rows) : (spanL p n rows).length = p.toNat ^ (mRed p n rows).length := by
  rw [← count_priv hP (red_vcs hP h) (red_form hP h).1.priv]
  exact spanL_count hP h (red_vcs hP h) fun v => (red_in hP h v).symm
theorem rank_priv (hP : PR p) {A : List (List Int)} {pos : Nat → Nat} (hA : Vcs p n A) (h : Priv A pos) : (mRed p n A).length = A.length := pow_inj hP (by rw [← count_red hP hA, count_priv hP hA h])
theorem rank_le (hP : PR p) {A B : List (List Int)} (hA : Vcs p n A) (hB : Vcs p n B) (h : ∀ v, In p n A v → In p n B v) : (mRed p n A).length ≤ (mRed p n B).length := by
  have := spanL_count_le hP hA hB h
  rw [count_red hP hA, count_red hP hB] at this
  exact (Nat.pow_le_pow_iff_right (by have := hP.two; omega : 1 < p.toNat)).mp this
/-- a part with as many rows is the whole -/
theorem in_whole (hP : PR p) {A B : List (List Int)} (hA : Vcs p n A) (hB : Vcs p n B) (h : ∀ v, In p n A v → In p n B v) (hl : (mRed p n B).length ≤ (mRed p n A).length) (v : List Int) (hv : In p n B v) : In p n A v := by
  rw [← mem_spanL hP hB] at hv
  rw [← mem_spanL hP hA]
  refine nodup_all (nodup_spanL hP hA) (fun x hx => (mem_spanL hP hB x).mpr (h x ((mem_spanL hP hA x).mp hx))) ?_ v hv
  rw [count_red hP hA, count_red hP hB]
  exact Nat.pow_le_pow_right (by have := hP.two; omega) hl
end
/-! ### all rows -/
def mAll (p : Int) : Nat → List (List Int)
  | 0 => [[]]
  | n + 1 => (mAll p n).flatMap fun w => (List.range p.toNat).map fun (a : Nat) => w ++ [(a : Int)]
theorem mAll_len (p : Int) : ∀ n, (mAll p n).length = p.toNat ^ n
  | 0 => rfl
  | n + 1 => by
    unfold mAll
    rw [flatMap_len _ p.toNat fun w => by rw [List.length_map, List.length_range], mAll_len p n, Nat.pow_succ]
theorem mem_mAll {p : Int} : ∀ {n : Nat} {v : List Int}, v ∈ mAll p n ↔ Vc p n v
  | 0, v => by
    unfold mAll
    rw [List.mem_singleton]
    exact ⟨fun e => by rw [e]; exact ⟨rfl, fun x hx => absurd hx (by simp)⟩, fun h => List.eq_nil_of_length_eq_zero h.1⟩
  | n + 1, v => by
    unfold mAll
    rw [List.mem_flatMap]
    constructor
    · rintro ⟨w, hw, hv⟩
      obtain ⟨a, ha, rfl⟩ := List.mem_map.mp hv
      have ha' := List.mem_range.mp ha
      have hw' := mem_mAll.mp hw
      refine ⟨by rw [List.length_append, hw'.1]; rfl, fun x hx => ?_⟩
      rcases List.mem_append.mp hx with h | h
      · exact hw'.2 x h
      · rw [List.mem_singleton.mp h]
        omega
    · intro h
      have hne : v ≠ [] := fun e => by rw [e] at h; cases h.1
      have e := List.dropLast_concat_getLast hne
      have hl := h.2 _ (List.getLast_mem hne)
      refine ⟨v.dropLast, mem_mAll.mpr ⟨by rw [List.length_dropLast, h.1]; rfl, fun x hx => h.2 x ((List.dropLast_sublist v).subset hx)⟩, List.mem_map.mpr ⟨(v.getLast hne).toNat, List.mem_range.mpr (by omega), ?_⟩⟩
      rw [Int.toNat_of_nonneg hl.1]
      exact e
theorem lt_app {a b : Int} : ∀ {v w : List Int}, v.length = w.length → v < w → v ++ [a] < w ++ [b]
  | [], [], _, h => absurd h (List.lt_irrefl _)
  | [], _ :: _, h, _ => by simp at h
  | _ :: _, [], h, _ => by simp at h
  | x :: v, y :: w, h, hlt => by
    rw [List.cons_append, List.cons_append]
    rcases List.cons_lt_cons_iff.mp hlt with h1 | ⟨h1, h2⟩
    · exact List.cons_lt_cons_iff.mpr (.inl h1)
    · exact List.cons_lt_cons_iff.mpr (.inr ⟨h1, lt_app (by simpa using h) h2⟩)
theorem lt_app2 {a b : Int} (h : a < b) : ∀ v : List Int, v ++ [a] < v ++ [b]
  | [] => List.cons_lt_cons_iff.mpr (.inl h)
  | x :: v => List.cons_lt_cons_iff.mpr (.inr ⟨rfl, lt_app2 h v⟩)
theorem mAll_sorted {p : Int} : ∀ n, (mAll p n).Pairwise (· < ·)
  | 0 => by unfold mAll; exact List.pairwise_singleton _ _
  | n + 1 => by
    unfold mAll
    rw [List.pairwise_flatMap]
    refine ⟨fun w hw => ?_, ?_⟩
    · rw [List.pairwise_map]
      exact List.Pairwise.imp (fun h => lt_app2 (by omega) w) List.pairwise_lt_range
    · refine List.Pairwise.imp_of_mem (fun {v w} hv hw h x hx y hy => ?_) (mAll_sorted n)
      obtain ⟨a, _, rfl⟩ := List.mem_map.mp hx
      obtain ⟨b, _, rfl⟩ := List.mem_map.mp hy
      exact lt_app (by rw [(mem_mAll.mp hv).1, (mem_mAll.mp hw).1]) h
/-- what of all rows lies in a span -/
theorem mSpan_filter {p : Int} {n : Nat} (hP : PR p) {A : List (List Int)} (hA : Vcs p n A) {b : List Int → Bool} (h : ∀ v, Vc p n v → (b v = true ↔ In p n A v)) : mSpan p n A = (mAll p n).filter b := by
  have tr : ∀ a b c : List Int, SortR.leR a b = true → SortR.leR b c = true → SortR.leR a c = true := fun a b c h1 h2 => (leR_iff _ _).mpr (List.le_trans ((leR_iff _ _).mp h1) ((leR_iff _ _).mp h2))
  have to : ∀ a b : List Int, (SortR.leR a b || SortR.leR b a) = true := fun a b => by
    rcases List.le_total a b with h | h
    · rw [(leR_iff _ _).mpr h]; rfl
    · rw [(leR_iff _ _).mpr h, Bool.or_true]
  unfold mSpan
  have hs := List.Pairwise.filter b (mAll_sorted (p := p) n)
  refine List.Perm.eq_of_pairwise (le := fun a b => SortR.leR a b = true) (fun a b _ _ h1 h2 => List.le_antisymm ((leR_iff _ _).mp h1) ((leR_iff _ _).mp h2)) (List.pairwise_mergeSort tr to _) (hs.imp fun h => (leR_iff _ _).mpr (List.le_of_lt h)) ?_
  refine (List.mergeSort_perm _ _).trans ?_
  have hn : ((mAll p n).filter b).Nodup := List.Pairwise.imp (fun {x y} h (e : x = y) => by
    subst e
    exact List.lt_irrefl _ h) hs
  rw [List.perm_ext_iff_of_nodup (nodup_spanL hP hA) hn]
  intro v
  rw [mem_spanL hP hA, List.mem_filter, mem_mAll]
  exact ⟨fun hv => ⟨hv.vc hP.pos hA, (h v (hv.vc hP.pos hA)).mpr hv⟩, fun hv => (h v hv.1).mp hv.2⟩
/-! ### sums -/
def sm (f : Nat → Int) : Nat → Int
  | 0 => 0
  | n + 1 => sm f n + f n
theorem sm_congr {f g : Nat → Int} : ∀ {n : Nat}, (∀ k, k < n → f k = g k) → sm f n = sm g n
  | 0, _ => rfl
  | n + 1, h => by
    show sm f n + f n = sm g n + g n
    rw [sm_congr fun k hk => h k (by omega), h n (by omega)]
theorem sm_add (f g : Nat → Int) : ∀ n, sm (fun k => f k + g k) n = sm f n + sm g n
  | 0 => rfl
  | n + 1 => by
    show sm _ n + (f n + g n) = (sm f n + f n) + (sm g n + g n)
    rw [sm_add f g n]
    omega
theorem sm_mul (a : Int) (f : Nat → Int) : ∀ n, sm (fun k => a * f k) n = a * sm f n
  | 0 => (Int.mul_zero a).symm
  | n + 1 => by
    show sm _ n + a * f n = a * (sm f n + f n)
    rw [sm_mul a f n, Int.mul_add]
theorem sm_zero : ∀ {f : Nat → Int} {n : Nat}, (∀ k, k < n → f k = 0) → sm f n = 0
  | _, 0, _ => rfl
  | f, n + 1, h => by
    show sm f n + f n = 0
    rw [sm_zero fun k hk => h k (by omega), h n (by omega)]
    rfl
theorem sm_mod {p : Int} {f g : Nat → Int} : ∀ {n : Nat}, (∀ k, k < n → f k % p = g k % p) → sm f n % p = sm g n % p
  | 0, _ => rfl
  | n + 1, h => by
    show (sm f n + f n) % p = (sm g n + g n) % p
    rw [Int.add_emod, sm_mod fun k hk => h k (by omega), h n (by omega), ← Int.add_emod]
theorem sm_one {f : Nat → Int} {a : Nat} : ∀ {n : Nat}, a < n → (∀ k, k < n → k ≠ a → f k = 0) → sm f n = f a
  | 0, h, _ => absurd h (Nat.not_lt_zero _)
  | n + 1, h, h0 => by
    show sm f n + f n = f a
    by_cases c : a = n
    · subst c
      rw [sm_zero fun k hk => h0 k (by omega) (by omega), Int.zero_add]
    · rw [sm_one (by omega) fun k hk hne => h0 k (by omega) hne, h0 n (by omega) (by omega), Int.add_zero]
theorem sm_two {f : Nat → Int} {a b : Nat} : ∀ {n : Nat}, a < n → b < n → a ≠ b → (∀ k, k < n → k ≠ a → k ≠ b → f k = 0) → sm f n = f a + f b
  | 0, h, _, _, _ => absurd h (Nat.not_lt_zero _)
  | n + 1, ha, hb, hab, h0 => by
    show sm f n + f n = f a + f b
    by_cases c : a = n
    · subst c
      rw [sm_one (a := b) (by omega) fun k hk hne => h0 k (by omega) (by omega) hne, Int.add_comm]
    · by_cases d : b = n
      · subst d
        rw [sm_one (a := a) (by omega) fun k hk hne => h0 k (by omega) hne (by omega)]
      · rw [sm_two (by omega) (by omega) hab fun k hk h1 h2 => h0 k (by omega) h1 h2, h0 n (by omega) (by omega) (by omega), Int.add_zero]
theorem sm_list (f : Nat → Int) : ∀ n, ((List.range n).map f).sum = sm f n
  | 0 => rfl
  | n + 1 => by
    rw [List.range_succ, List.map_append, List.sum_append, sm_list f n]
    show sm f n + (f n + 0) = sm f n + f n
    rw [Int.add_zero]
/-! ### products of rows -/
def mDot (p : Int) (v w : List Int) : Int := (((List.range v.length).map fun k => cf v k * cf w k).sum) % p
theorem mDot_sm (p : Int) (v w : List Int) : mDot p v w = sm (fun k => cf v k * cf w k) v.length % p := by
  unfold mDot
  rw [sm_list]
section
variable {p : Int} {n : Nat}
theorem dot_comm {v w : List Int} (h : v.length = w.length) : mDot p v w = mDot p w v := by
  rw [mDot_sm, mDot_sm, h, sm_congr fun k _ => Int.mul_comm _ _]
theorem dot_add (hp : 0 < p) {v w r : List Int} {a : Int} (hv : Vc p n v) (hw : Vc p n w) (hr : r.length = n) : mDot p r (mAdd p v (mScl p a w)) = (mDot p r v + a * mDot p r w) % p := by
  rw [mDot_sm, mDot_sm, mDot_sm, Int.emod_add_emod, em_ar, ← sm_mul, ← sm_add]
  refine sm_mod fun k hk => ?_
  rw [cf_add (by rw [scl_len, hv.1, hw.1]), cf_scl, Int.add_emod_emod, em_r]
  congr 1
  grind
theorem dot_zer {r : List Int} : mDot p r (zer n) = 0 := by
  rw [mDot_sm, sm_zero fun k _ => by rw [cf_zer, Int.mul_zero], Int.zero_emod]
def InKer (p : Int) (n : Nat) (A : List (List Int)) (v : List Int) : Prop := Vc p n v ∧ ∀ r ∈ A, mDot p r v = 0
theorem InKer.add (hp : 0 < p) {A : List (List Int)} (hA : Vcs p n A) {v w : List Int} {a : Int} (hv : InKer p n A v) (hw : InKer p n A w) : InKer p n A (mAdd p v (mScl p a w)) :=
  ⟨hv.1.add' hp (hw.1.scl' hp), fun r hr => by rw [dot_add hp hv.1 hw.1 (hA r hr).1, hv.2 r hr, hw.2 r hr, Int.mul_zero, Int.add_zero, Int.zero_emod]⟩
theorem InKer.zer (hp : 0 < p) (A : List (List Int)) : InKer p n A (zer n) := ⟨Vc.zer hp, fun r _ => dot_zer⟩
theorem InKer.of (hp : 0 < p) {A B : List (List Int)} (hA : Vcs p n A) (h : ∀ r ∈ B, InKer p n A r) {v : List Int} (hv : In p n B v) : InKer p n A v := by
  induction hv with
  | zero => exact InKer.zer hp A
  | add a _ hr ih => exact ih.add hp hA (h _ hr)
theorem InKer.all (hp : 0 < p) {A : List (List Int)} (hA : Vcs p n A) {v : List Int} (hv : InKer p n A v) {r : List Int} (hr : In p n A r) : mDot p r v = 0 := by
  induction hr with
  | zero => rw [dot_comm (by rw [hv.1.1]; exact (Vc.zer hp : Vc p n _).1), dot_zer]
  | add a hw hr ih =>
    have hwv := hw.vc hp hA
    have hrv := hA _ hr
    rw [dot_comm (by rw [(hwv.add' hp (hrv.scl' hp)).1, hv.1.1]), dot_add hp hwv hrv hv.1.1, dot_comm (by rw [hwv.1, hv.1.1]), ih, dot_comm (by rw [hrv.1, hv.1.1]), hv.2 _ hr, Int.mul_zero, Int.add_zero, Int.zero_emod]
theorem InKer.same (hP : PR p) {A B : List (List Int)} (hA : Vcs p n A) (hB : Vcs p n B) (h : ∀ r, In p n A r ↔ In p n B r) (v : List Int) : InKer p n A v ↔ InKer p n B v :=
  ⟨fun k => ⟨k.1, fun r hr => k.all hP.pos hA ((h r).mpr (In.row hP.pos hB hP.two hr))⟩, fun k => ⟨k.1, fun r hr => k.all hP.pos hB ((h r).mp (In.row hP.pos hA hP.two hr))⟩⟩
end
/-! ### the kernel -/
def unitR (n f : Nat) : List Int := (List.range n).map fun k => if k = f then 1 else 0
def kStep (p : Int) (f : Nat) (row line : List Int) : List Int := row.set (mPv line) ((-(cf line f)) % p)
def kRow (p : Int) (n : Nat) (A : List (List Int)) (f : Nat) : List Int := A.foldl (kStep p f) (unitR n f)
def frees (n : Nat) (A : List (List Int)) : List Nat := (List.range n).filter fun f => !decide (f ∈ A.map mPv)
def kRows (p : Int) (n : Nat) (A : List (List Int)) : List (List Int) := (frees n A).map (kRow p n A)
def mKer (p : Int) (n : Nat) (rows : List (List Int)) : List (List Int) := mRed p n (kRows p n (mRed p n rows))
theorem unitR_len (n f : Nat) : (unitR n f).length = n := by
  unfold unitR
  rw [List.length_map, List.length_range]
theorem cf_unitR {n f k : Nat} (h : k < n) : cf (unitR n f) k = if k = f then 1 else 0 := by
  rw [cf_lt (by rw [unitR_len]; exact h)]
  unfold unitR
  rw [List.getElem_map, List.getElem_range]
theorem cf_set {row : List Int} {i k : Nat} {x : Int} (hi : i < row.length) : cf (row.set i x) k = if k = i then x else cf row k := by
  by_cases c : k = i
  · subst c
    rw [if_pos rfl, cf_lt (by rw [List.length_set]; exact hi), List.getElem_set_self]
  · rw [if_neg c]
    unfold cf
    rw [List.getD_eq_getElem?_getD, List.getD_eq_getElem?_getD, List.getElem?_set_ne (fun e => c e.symm)]
theorem unitR_vc {p : Int} (h2 : 2 ≤ p) (n f : Nat) : Vc p n (unitR n f) := ⟨unitR_len n f, fun x hx => by
  unfold unitR at hx
  obtain ⟨k, _, rfl⟩ := List.mem_map.mp hx
  split <;> omega⟩
theorem Vc.set {p : Int} {n : Nat} {v : List Int} (hp : 0 < p) (h : Vc p n v) (i : Nat) (x : Int) : Vc p n (v.set i (x % p)) := ⟨by rw [List.length_set]; exact h.1, fun y hy => by
  rcases List.mem_or_eq_of_mem_set hy with e | e
  · exact h.2 y e
  · rw [e]
    exact emod_in hp x⟩
theorem kfold {p : Int} {n : Nat} {f : Nat} (hp : 0 < p) : ∀ {l : List (List Int)} {row : List Int}, Vc p n row → (∀ r ∈ l, mPv r < n) → (l.map mPv).Pairwise (· < ·) →
    Vc p n (l.foldl (kStep p f) row) ∧ (∀ k, (∀ r ∈ l, mPv r ≠ k) → cf (l.foldl (kStep p f) row) k = cf row k) ∧ ∀ r ∈ l, cf (l.foldl (kStep p f) row) (mPv r) = (-(cf r f)) % p
  | [], row, h, _, _ => ⟨h, fun _ _ => rfl, fun r hr => absurd hr (by simp)⟩
  | r :: l, row, h, hl, hs => by
    rw [List.map_cons, List.pairwise_cons] at hs
    have hrn := hl r List.mem_cons_self
    have h1 : Vc p n (kStep p f row r) := h.set hp _ _
    obtain ⟨g1, g2, g3⟩ := kfold (f := f) hp (l := l) (row := kStep p f row r) h1 (fun x hx => hl x (List.mem_cons_of_mem _ hx)) hs.2
    have hc : ∀ k, cf (kStep p f row r) k = if k = mPv r then (-(cf r f)) % p else cf row k := fun k => cf_set (by rw [h.1]; exact hrn)
    refine ⟨g1, fun k hk => ?_, fun x hx => ?_⟩
    · rw [List.foldl_cons, g2 k fun x hx => hk x (List.mem_cons_of_mem _ hx), hc, if_neg fun e => hk r List.mem_cons_self e.symm]
    · rcases List.mem_cons.mp hx with e | e
      · rw [e, List.foldl_cons, g2 (mPv r) fun y hy e2 => by
          have := hs.1 (mPv y) (List.mem_map.mpr ⟨y, hy, rfl⟩)
          omega]
        rw [hc, if_pos rfl]
      · rw [List.foldl_cons]
        exact g3 x e
section
variable {p : Int} {n : Nat} {A : List (List Int)}
theorem InForm.pvn (hF : InForm n A) {r : List Int} (hr : r ∈ A) : mPv r < n := by
  obtain ⟨i, hi, e⟩ := hF.pvs hr
  have := (nz_mem (mPv_mem (hF.ne i hi))).1
  rw [hF.len i hi, e] at this
  exact this
theorem mem_frees {f : Nat} : f ∈ frees n A ↔ f < n ∧ ∀ r ∈ A, mPv r ≠ f := by
  unfold frees
  rw [List.mem_filter, List.mem_range]
  refine and_congr_right fun _ => ?_
  simp
theorem kRow_spec (hP : PR p) (hF : InForm n A) (f : Nat) : Vc p n (kRow p n A f) ∧ (∀ k, k < n → (∀ r ∈ A, mPv r ≠ k) → cf (kRow p n A f) k = if k = f then 1 else 0) ∧ ∀ r ∈ A, cf (kRow p n A f) (mPv r) = (-(cf r f)) % p := by
  obtain ⟨h1, h2, h3⟩ := kfold (f := f) hP.pos (l := A) (unitR_vc hP.two n f) (fun r hr => hF.pvn hr) hF.sorted
  exact ⟨h1, fun k hk hn => by rw [← cf_unitR hk]; exact h2 k hn, h3⟩
theorem kRows_vcs (hP : PR p) (hF : InForm n A) : Vcs p n (kRows p n A) := fun v hv => by
  unfold kRows at hv
  obtain ⟨f, _, rfl⟩ := List.mem_map.mp hv
  exact (kRow_spec hP hF f).1
theorem one_piv (hF : InForm n A) {r : List Int} (hr : r ∈ A) : cf r (mPv r) = 1 := by
  obtain ⟨i, hi, e⟩ := hF.pvs hr
  rw [← e]
  exact hF.one i hi
theorem off_piv (hF : InForm n A) {r s : List Int} (hr : r ∈ A) (hs : s ∈ A) (hne : mPv s ≠ mPv r) : cf r (mPv s) = 0 := by
  obtain ⟨i, hi, e⟩ := hF.pvs hr
  obtain ⟨k, hk, e2⟩ := hF.pvs hs
  rw [← e, ← e2]
  exact hF.off k i hk hi fun z => hne (by rw [← e, ← e2, z])
/-- the product with a row of the table: the pivot's item and the free ones -/
theorem kRow_ker (hP : PR p) (hF : InForm n A) (hA : Vcs p n A) {f : Nat} (hf : f ∈ frees n A) : InKer p n A (kRow p n A f) := by
  have hp := hP.pos
  obtain ⟨h1, h2, h3⟩ := kRow_spec hP hF f
  obtain ⟨f1, f2⟩ := mem_frees.mp hf
  refine ⟨h1, fun r hr => ?_⟩
  rw [mDot_sm, (hA r hr).1, sm_two (a := f) (b := mPv r) f1 (hF.pvn hr) (fun e => f2 r hr e.symm) fun k hk k1 k2 => ?_]
  · rw [h2 f f1 f2, if_pos rfl, h3 r hr, one_piv hF hr, Int.mul_one, Int.one_mul, Int.add_emod_emod, Int.add_right_neg, Int.zero_emod]
  · by_cases c : ∃ s ∈ A, mPv s = k
    · obtain ⟨s, hs, rfl⟩ := c
      rw [off_piv hF hr hs k2, Int.zero_mul]
    · rw [h2 k hk fun s hs e => c ⟨s, hs, e⟩, if_neg k1, Int.mul_zero]
/-- the free places are emptied one by one -/
theorem empties (hP : PR p) (hF : InForm n A) (hA : Vcs p n A) {v : List Int} (hv : InKer p n A v) : ∀ {l : List Nat}, (∀ f ∈ l, f ∈ frees n A) → ∃ u w, InKer p n A u ∧ In p n (kRows p n A) w ∧ v = mAdd p u w ∧ ∀ f ∈ l, cf u f = 0
  | [], _ => ⟨v, zer n, hv, .zero, (add_zer hP.pos hv.1).symm, fun f hf => absurd hf (by simp)⟩
  | f :: l, hl => by
    have hp := hP.pos
    obtain ⟨u, w, hu, hw, e, h0⟩ := empties hP hF hA hv (l := l) fun x hx => hl x (List.mem_cons_of_mem _ hx)
    have hf := hl f List.mem_cons_self
    obtain ⟨k1, k2, k3⟩ := kRow_spec hP hF f
    have hkA : kRow p n A f ∈ kRows p n A := List.mem_map.mpr ⟨f, hf, rfl⟩
    have hK := kRows_vcs hP hF
    have hwv := hw.vc hp hK
    refine ⟨mAdd p u (mScl p (-(cf u f)) (kRow p n A f)), mAdd p w (mScl p (cf u f) (kRow p n A f)), hu.add hp hA (kRow_ker hP hF hA hf), .add _ hw hkA, ?_, fun g hg => ?_⟩
    · rw [e]
      have ks := k1.scl' (a := cf u f) hp
      have ks2 := k1.scl' (a := -(cf u f)) hp
      refine vext hp (hu.1.add' hp hwv) ((hu.1.add' hp ks2).add' hp (hwv.add' hp ks)) fun k => ?_
      rw [cf_add (by rw [hu.1.1, hwv.1]), cf_add (by rw [(hu.1.add' hp ks2).1, (hwv.add' hp ks).1]), cf_add (by rw [hu.1.1, ks2.1]), cf_add (by rw [hwv.1, ks.1]), cf_scl, cf_scl]
      simp only [Int.emod_emod, Int.emod_add_emod, Int.add_emod_emod]
      congr 1
      grind
    · obtain ⟨f1, f2⟩ := mem_frees.mp hf
      rw [cf_add (by rw [scl_len, hu.1.1, k1.1]), cf_scl, Int.add_emod_emod]
      by_cases c : g = f
      · subst c
        rw [k2 g f1 f2, if_pos rfl, Int.one_mul, Int.add_right_neg, Int.zero_emod]
      · have hg' : g ∈ l := by
          rcases List.mem_cons.mp hg with e | e
          · exact absurd e c
          · exact e
        obtain ⟨g1, g2⟩ := mem_frees.mp (hl g hg)
        rw [h0 g hg', k2 g g1 g2, if_neg c, Int.zero_mul, Int.add_zero, Int.zero_emod]
theorem kRows_in (hP : PR p) (hF : InForm n A) (hA : Vcs p n A) (v : List Int) : In p n (kRows p n A) v ↔ InKer p n A v := by
  have hp := hP.pos
  refine ⟨fun h => InKer.of hp hA (fun r hr => ?_) h, fun h => ?_⟩
  · unfold kRows at hr
    obtain ⟨f, hf, rfl⟩ := List.mem_map.mp hr
    exact kRow_ker hP hF hA hf
  · obtain ⟨u, w, hu, hw, e, h0⟩ := empties hP hF hA h (l := frees n A) fun f hf => hf
    have hwv := hw.vc hp (kRows_vcs hP hF)
    have hz : u = zer n := vext0 hu.1.1 (Vc.zer hp : Vc p n _).1 fun k hk => by
      rw [cf_zer]
      by_cases c : ∃ s ∈ A, mPv s = k
      · obtain ⟨s, hs, rfl⟩ := c
        have h1 := hu.2 s hs
        rw [mDot_sm, (hA s hs).1, sm_one (a := mPv s) hk fun k hk hne => ?_] at h1
        · rw [one_piv hF hs, Int.one_mul, hu.1.md hp] at h1
          exact h1
        · by_cases c : ∃ t ∈ A, mPv t = k
          · obtain ⟨t, ht, rfl⟩ := c
            rw [off_piv hF hs ht hne, Int.zero_mul]
          · rw [h0 k (mem_frees.mpr ⟨hk, fun t ht e => c ⟨t, ht, e⟩⟩), Int.mul_zero]
      · exact h0 k (mem_frees.mpr ⟨hk, fun t ht e => c ⟨t, ht, e⟩⟩)
    rw [e, hz, zer_add hp hwv]
    exact hw
theorem kRows_priv (hP : PR p) (hF : InForm n A) : Priv (kRows p n A) fun i => (frees n A).getD i 0 := by
  intro i hi
  have hl : (kRows p n A).length = (frees n A).length := List.length_map _
  have hg : ∀ k, k < (kRows p n A).length → (kRows p n A).getD k [] = kRow p n A ((frees n A).getD k 0) := fun k hk => by
    unfold kRows
    exact getD_map' _ 0 _ (by omega)
  have hm : ∀ k, k < (kRows p n A).length → (frees n A).getD k 0 ∈ frees n A := fun k hk => by
    rw [List.getD_eq_getElem?_getD, List.getElem?_eq_getElem (by omega : k < (frees n A).length)]
    exact List.getElem_mem _
  have hnd : (frees n A).Pairwise (· < ·) := by
    unfold frees
    exact List.Pairwise.filter _ List.pairwise_lt_range
  obtain ⟨f1, f2⟩ := mem_frees.mp (hm i hi)
  refine ⟨?_, fun k hk hne => ?_⟩
  · rw [hg i hi, (kRow_spec hP hF _).2.1 _ f1 f2, if_pos rfl]
    decide
  · rw [hg k hk, (kRow_spec hP hF _).2.1 _ f1 f2, if_neg]
    intro e
    rw [List.getD_eq_getElem?_getD, List.getD_eq_getElem?_getD, List.getElem?_eq_getElem (by omega : i < (frees n A).length), List.getElem?_eq_getElem (by omega : k < (frees n A).length)] at e
    have e' : (frees n A)[k] = (frees n A)[i] := e.symm
    rcases Nat.lt_trichotomy i k with c | c | c
    · have := List.pairwise_iff_getElem.mp hnd i k (by omega) (by omega) c
      omega
    · exact hne c.symm
    · have := List.pairwise_iff_getElem.mp hnd k i (by omega) (by omega) c
      omega
theorem filter_two {α : Type} (b : α → Bool) : ∀ l : List α, (l.filter b).length + (l.filter fun x => !b x).length = l.length
  | [] => rfl
  | a :: l => by
    have ih := filter_two b l
    rw [List.filter_cons, List.filter_cons]
    cases b a
    · show (l.filter b).length + ((l.filter fun x => !b x).length + 1) = l.length + 1
      omega
    · show (l.filter b).length + 1 + (l.filter fun x => !b x).length = l.length + 1
      omega
theorem frees_len (hF : InForm n A) : (frees n A).length + A.length = n := by
  have h1 : (List.range n).filter (fun f => decide (f ∈ A.map mPv)) = A.map mPv := sorted_eq (List.Pairwise.filter _ List.pairwise_lt_range) hF.sorted fun x => by
    rw [List.mem_filter, List.mem_range]
    refine ⟨fun h => of_decide_eq_true h.2, fun h => ⟨?_, decide_eq_true h⟩⟩
    obtain ⟨r, hr, rfl⟩ := List.mem_map.mp h
    exact hF.pvn hr
  have h2 := filter_two (fun f => decide (f ∈ A.map mPv)) (List.range n)
  rw [h1, List.length_range, List.length_map] at h2
  unfold frees
  omega
end
section
variable {p : Int} {n : Nat} {rows : List (List Int)}
theorem ker_vcs (hP : PR p) (h : Vcs p n rows) : Vcs p n (mKer p n rows) := red_vcs hP (kRows_vcs hP (red_form hP h).1)
theorem ker_form (hP : PR p) (h : Vcs p n rows) : InForm n (mKer p n rows) := (red_form hP (kRows_vcs hP (red_form hP h).1)).1
theorem ker_in (hP : PR p) (h : Vcs p n rows) (v : List Int) : In p n (mKer p n rows) v ↔ InKer p n rows v := by
  unfold mKer
  rw [red_in hP (kRows_vcs hP (red_form hP h).1), kRows_in hP (red_form hP h).1 (red_vcs hP h), InKer.same hP (red_vcs hP h) h (red_in hP h)]
theorem ker_len (hP : PR p) (h : Vcs p n rows) : (mKer p n rows).length + (mRed p n rows).length = n := by
  have h1 : (mKer p n rows).length = (kRows p n (mRed p n rows)).length := rank_priv hP (kRows_vcs hP (red_form hP h).1) (kRows_priv hP (red_form hP h).1)
  have h2 := frees_len (red_form hP h).1
  rw [h1]
  unfold kRows
  rw [List.length_map]
  exact h2
theorem red_red (hP : PR p) (h : Vcs p n rows) : mRed p n (mRed p n rows) = mRed p n rows := (red_uni hP (red_vcs hP h) h (red_in hP h)).1
/-- the kernel of the kernel -/
theorem ker_ker (hP : PR p) (h : Vcs p n rows) : mKer p n (mKer p n rows) = mRed p n rows := by
  have hp := hP.pos
  have hk := ker_vcs hP h
  have h1 : ∀ v, In p n rows v → In p n (mKer p n (mKer p n rows)) v := fun v hv => by
    rw [ker_in hP hk]
    have hvv := hv.vc hp h
    refine ⟨hvv, fun r hr => ?_⟩
    have h2 := (ker_in hP h r).mp (In.row hp hk hP.two hr)
    rw [dot_comm (by rw [h2.1.1, hvv.1])]
    exact h2.all hp h hv
  have h2 := ker_len hP h
  have h3 := ker_len hP hk
  have e : mRed p n (mKer p n rows) = mKer p n rows := red_red hP (kRows_vcs hP (red_form hP h).1)
  rw [e] at h3
  have e2 : mRed p n (mKer p n (mKer p n rows)) = mKer p n (mKer p n rows) := red_red hP (kRows_vcs hP (red_form hP hk).1)
  rw [← e2]
  refine (red_uni hP (ker_vcs hP hk) h fun v => ⟨fun hv => in_whole hP h (ker_vcs hP hk) h1 ?_ v hv, h1 v⟩).1
  rw [e2]
  omega
end
/-! ### columns; sums of multiples -/
def mCol (rows : List (List Int)) (k : Nat) : List Int := rows.map fun r => cf r k
def mTurn (n : Nat) (rows : List (List Int)) : List (List Int) := (List.range n).map (mCol rows)
def mTot (p : Int) (n : Nat) (rows : List (List Int)) (w : List Int) (i : Nat) : List Int := (List.range i).foldl (fun t k => mAdd p t (mScl p (cf w k) (rows.getD k []))) (zer n)
theorem mTot_succ (p : Int) (n : Nat) (rows : List (List Int)) (w : List Int) (i : Nat) : mTot p n rows w (i + 1) = mAdd p (mTot p n rows w i) (mScl p (cf w i) (rows.getD i [])) := by
  unfold mTot
  rw [List.range_succ, List.foldl_append]
  rfl
theorem cf_col {rows : List (List Int)} {k j : Nat} (h : j < rows.length) : cf (mCol rows k) j = cf (rows.getD j []) k := by
  unfold mCol
  show (rows.map fun r => cf r k).getD j 0 = _
  exact getD_map' _ [] _ h
theorem col_len {rows : List (List Int)} {k : Nat} : (mCol rows k).length = rows.length := List.length_map _
theorem turn_len {rows : List (List Int)} {n : Nat} : (mTurn n rows).length = n := by
  unfold mTurn
  rw [List.length_map, List.length_range]
section
variable {p : Int} {n : Nat} {rows : List (List Int)}
theorem col_vc (hp : 0 < p) (h : Vcs p n rows) (k : Nat) : Vc p rows.length (mCol rows k) := ⟨col_len, fun x hx => by
  unfold mCol at hx
  obtain ⟨r, hr, rfl⟩ := List.mem_map.mp hx
  exact (h r hr).cf hp k⟩
theorem turn_vcs (hp : 0 < p) (h : Vcs p n rows) : Vcs p rows.length (mTurn n rows) := fun v hv => by
  unfold mTurn at hv
  obtain ⟨k, _, rfl⟩ := List.mem_map.mp hv
  exact col_vc hp h k
theorem tot_vc (hp : 0 < p) (h : Vcs p n rows) (w : List Int) : ∀ i, i ≤ rows.length → Vc p n (mTot p n rows w i)
  | 0, _ => Vc.zer hp
  | i + 1, hi => by
    rw [mTot_succ]
    exact (tot_vc hp h w i (by omega)).add' hp ((h _ (getD_memL (by omega))).scl' hp)
theorem cf_tot (hp : 0 < p) (h : Vcs p n rows) (w : List Int) (k : Nat) : ∀ i, i ≤ rows.length → cf (mTot p n rows w i) k = sm (fun j => cf (rows.getD j []) k * cf w j) i % p
  | 0, _ => by
    show cf (zer n) k = 0 % p
    rw [cf_zer, Int.zero_emod]
  | i + 1, hi => by
    have hr := h _ (getD_memL (l := rows) (j := i) (by omega))
    rw [mTot_succ, cf_add (by rw [scl_len, (tot_vc hp h w i (by omega)).1, hr.1]), cf_scl, cf_tot hp h w k i (by omega), Int.emod_add_emod, Int.add_emod_emod]
    rfl
theorem tot_in (hp : 0 < p) (w : List Int) : ∀ i, i ≤ rows.length → In p n rows (mTot p n rows w i)
  | 0, _ => .zero
  | i + 1, hi => by
    rw [mTot_succ]
    exact .add _ (tot_in hp w i (by omega)) (getD_memL (by omega))
theorem tot_ker (hp : 0 < p) (h : Vcs p n rows) {w : List Int} (hw : Vc p rows.length w) : mTot p n rows w rows.length = zer n ↔ InKer p rows.length (mTurn n rows) w := by
  have key : ∀ k, mDot p (mCol rows k) w = cf (mTot p n rows w rows.length) k := fun k => by
    rw [mDot_sm, col_len, cf_tot hp h w k _ (Nat.le_refl _), sm_congr fun j hj => by rw [cf_col hj]]
  refine ⟨fun e => ⟨hw, fun r hr => ?_⟩, fun hk => ?_⟩
  · unfold mTurn at hr
    obtain ⟨k, _, rfl⟩ := List.mem_map.mp hr
    rw [key, e, cf_zer]
  · refine vext0 (tot_vc hp h w _ (Nat.le_refl _)).1 (Vc.zer hp : Vc p n _).1 fun k hk2 => ?_
    rw [← key, cf_zer]
    refine hk.2 _ ?_
    unfold mTurn
    exact List.mem_map.mpr ⟨k, List.mem_range.mpr hk2, rfl⟩
/-- a sum of the rows of a reduced table, by its items at the pivots -/
theorem in_coef (hp : 0 < p) {A : List (List Int)} (hF : InForm n A) (hA : Vcs p n A) {v : List Int} (h : In p n A v) (k : Nat) : cf v k = sm (fun j => cf v (mPv (A.getD j [])) * cf (A.getD j []) k) A.length % p := by
  induction h with
  | zero => rw [cf_zer, sm_zero fun j _ => by rw [cf_zer, Int.zero_mul], Int.zero_emod]
  | add a hw hr ih =>
    rename_i w r
    have hwv := hw.vc hp hA
    have hrv := hA _ hr
    have hc : ∀ k, cf (mAdd p w (mScl p a r)) k = (cf w k + cf r k * a) % p := fun k => by rw [cf_add (by rw [scl_len, hwv.1, hrv.1]), cf_scl, Int.add_emod_emod]
    obtain ⟨i, hi, e⟩ := hF.pvs hr
    have h1 : sm (fun j => cf r (mPv (A.getD j [])) * cf (A.getD j []) k) A.length = cf r k := by
      rw [sm_one (a := i) hi fun j hj hne => ?_]
      · rw [e, one_piv hF hr, Int.one_mul]
      · rw [← e, show cf (A.getD i []) (mPv (A.getD j [])) = 0 from hF.off j i hj hi (fun z => hne z.symm), Int.zero_mul]
    rw [hc, ih, ← h1, Int.emod_add_emod, ← Int.mul_comm a, ← sm_mul, ← sm_add]
    refine sm_mod fun j hj => ?_
    rw [hc, em_l]
    congr 1
    grind
theorem rank_turn_le (hP : PR p) (h : Vcs p n rows) : (mRed p rows.length (mTurn n rows)).length ≤ (mRed p n rows).length := by
  have hp := hP.pos
  have hF := (red_form hP h).1
  have hA := red_vcs hP h
  have hl : ∀ A : List (List Int), (A.map fun a => mCol rows (mPv a)).length = A.length := fun A => List.length_map _
  have hC : Vcs p rows.length ((mRed p n rows).map fun a => mCol rows (mPv a)) := fun v hv => by
    obtain ⟨a, _, rfl⟩ := List.mem_map.mp hv
    exact col_vc hp h _
  have key : ∀ k, In p rows.length ((mRed p n rows).map fun a => mCol rows (mPv a)) (mCol rows k) := fun k => by
    have e : mCol rows k = mTot p rows.length ((mRed p n rows).map fun a => mCol rows (mPv a)) (mCol (mRed p n rows) k) ((mRed p n rows).map fun a => mCol rows (mPv a)).length := by
      refine vext0 col_len (tot_vc hp hC _ _ (Nat.le_refl _)).1 fun i hi => ?_
      rw [cf_tot hp hC _ _ _ (Nat.le_refl _), cf_col hi, in_coef hp hF hA ((red_in hP h _).mpr (In.row hp h hP.two (getD_memL hi))) k, hl]
      congr 1
      refine sm_congr fun j hj => ?_
      rw [getD_map' _ [] _ hj, cf_col hi, cf_col hj]
    rw [e]
    exact tot_in hp _ _ (Nat.le_refl _)
  have h1 := rank_le hP (turn_vcs hp h) hC fun v hv => hv.mono hp hC fun r hr => by
    unfold mTurn at hr
    obtain ⟨k, _, rfl⟩ := List.mem_map.mp hr
    exact key k
  have h2 := red_len hP hC
  rw [hl] at h2
  omega
theorem turn_at {n k : Nat} {rows : List (List Int)} (h : k < (mTurn n rows).length) : (mTurn n rows)[k] = mCol rows k := by simp [mTurn]
theorem turn_turn (h : ∀ r ∈ rows, r.length = n) : mTurn rows.length (mTurn n rows) = rows := by
  refine List.ext_getElem turn_len fun i h1 h2 => ?_
  rw [turn_at h1]
  refine vext0 (n := n) (by rw [col_len, turn_len]) (h _ (List.getElem_mem h2)) fun k hk => ?_
  have hk' : k < (mTurn n rows).length := by rw [turn_len]; exact hk
  rw [cf_col hk', List.getD_eq_getElem?_getD, List.getElem?_eq_getElem hk']
  show cf (mTurn n rows)[k] i = _
  rw [turn_at hk', cf_col h2, List.getD_eq_getElem?_getD, List.getElem?_eq_getElem h2]
  rfl
theorem rank_turn (hP : PR p) (h : Vcs p n rows) : (mRed p rows.length (mTurn n rows)).length = (mRed p n rows).length := by
  refine Nat.le_antisymm (rank_turn_le hP h) ?_
  have h1 := rank_turn_le hP (turn_vcs hP.pos h)
  rw [turn_len, turn_turn fun r hr => (h r hr).1] at h1
  exact h1
end
end Dl
set_option Elab.async false
set_option linter.all false
set_option maxHeartbeats 2000000
/-! LinSol: right sides, solutions, independent rows. No program in sight. -/
namespace Dl
open PySem L2
def mWide (p : Int) (rows : List (List Int)) (right : List Int) : List (List Int) := List.zipWith (fun r g => r ++ [g % p]) rows right
def mSolV (n : Nat) (A : List (List Int)) : List Int := A.foldl (fun f line => f.set (mPv line) (cf line n)) (zer n)
def mSolve (p : Int) (n : Nat) (rows : List (List Int)) (right : List Int) : Option (List Int) := if (n : Int) ∈ mPiv p (n + 1) (mWide p rows right) then none else some (mSolV n (mRed p (n + 1) (mWide p rows right)))
/-! ### the reduction looks at the first columns alone -/
def cutRS (n : Nat) (s : RS) : RS := ⟨s.left.map (List.take n), s.found.map (List.take n), s.piv⟩
theorem cf_take {n k : Nat} {v : List Int} (h : k < n) : cf (v.take n) k = cf v k := by
  unfold cf
  rw [List.getD_eq_getElem?_getD, List.getD_eq_getElem?_getD, List.getElem?_take_of_lt h]
theorem scl_take (p a : Int) (n : Nat) (v : List Int) : (mScl p a v).take n = mScl p a (v.take n) := by
  unfold mScl
  rw [List.map_take]
theorem clr_take (p : Int) {n j : Nat} (h : j < n) (head row : List Int) : (mClr p j head row).take n = mClr p j (head.take n) (row.take n) := by
  unfold mClr
  rw [cf_def, cf_def, cf_take h]
  split
  · rfl
  · rw [List.take_zipWith]
theorem take_getD {n h : Nat} {l : List (List Int)} (hl : h < l.length) : (l.map (List.take n)).getD h [] = (l.getD h []).take n := getD_map' _ [] _ hl
theorem hds_take {n j : Nat} (hj : j < n) (l : List (List Int)) : hds (l.map (List.take n)) j = hds l j := by
  unfold hds
  rw [List.length_map]
  refine List.filter_congr fun k hk => ?_
  rw [take_getD (List.mem_range.mp hk), cf_def, cf_def, cf_take hj]
theorem rStep_take (p : Int) {n j : Nat} (hj : j < n) (s : RS) : cutRS n (rStep p s j) = rStep p (cutRS n s) j := by
  cases e : hds s.left j with
  | nil =>
    rw [rStep_nil e, rStep_nil]
    show hds (s.left.map (List.take n)) j = []
    rw [hds_take hj, e]
  | cons h t =>
    have hl := (hds_mem (by rw [e]; exact List.mem_cons_self : h ∈ hds s.left j)).1
    rw [rStep_cons e, rStep_cons (s := cutRS n s) (h := h) (t := t) (by show hds (s.left.map (List.take n)) j = _; rw [hds_take hj, e])]
    have e1 : (cutRS n s).left.getD h [] = (s.left.getD h []).take n := take_getD hl
    rw [e1, cf_def, cf_def, cf_take hj, ← scl_take]
    show RS.mk _ _ _ = RS.mk _ _ _
    have e2 : ∀ (l : List (List Int)) (hd : List Int), (l.map (mClr p j hd)).map (List.take n) = (l.map (List.take n)).map (mClr p j (hd.take n)) := fun l hd => by
      rw [List.map_map, List.map_map]
      exact List.map_congr_left fun x _ => clr_take p hj hd x
    congr 1
    · rw [e2]
      show _ = List.map _ ((s.left.map (List.take n)).eraseIdx h)
      rw [map_erase]
    · rw [List.map_append, e2]
      rfl
theorem rRun_take (p : Int) {n : Nat} (rows : List (List Int)) : ∀ k, k ≤ n → cutRS n (rRun p rows k) = rRun p (rows.map (List.take n)) k
  | 0, _ => rfl
  | k + 1, h => by
    rw [rRun_succ, rRun_succ, rStep_take p (by omega), rRun_take p rows k (by omega)]
theorem wide_take {p : Int} {n : Nat} : ∀ {rows : List (List Int)} {right : List Int}, (∀ r ∈ rows, r.length = n) → rows.length = right.length → (mWide p rows right).map (List.take n) = rows
  | [], _, _, _ => rfl
  | r :: rows, [], _, h => by simp at h
  | r :: rows, g :: right, hr, h => by
    show ((r ++ [g % p]).take n) :: (mWide p rows right).map (List.take n) = _
    rw [wide_take (fun x hx => hr x (List.mem_cons_of_mem _ hx)) (by simpa using h), List.take_left' (hr r List.mem_cons_self)]
section
variable {p : Int} {n : Nat} {rows : List (List Int)} {right : List Int}
theorem wide_vcs (hp : 0 < p) : ∀ {rows : List (List Int)} {right : List Int}, Vcs p n rows → Vcs p (n + 1) (mWide p rows right)
  | [], _, _ => fun v hv => absurd hv (by simp [mWide])
  | r :: rows, [], _ => fun v hv => absurd hv (by simp [mWide])
  | r :: rows, g :: right, hr => fun v hv => by
    rcases List.mem_cons.mp (show v ∈ (r ++ [g % p]) :: mWide p rows right from hv) with e | e
    · have h1 := hr r List.mem_cons_self
      rw [e]
      refine ⟨by rw [List.length_append, h1.1]; rfl, fun x hx => ?_⟩
      rcases List.mem_append.mp hx with h | h
      · exact h1.2 x h
      · rw [List.mem_singleton.mp h]
        exact emod_in hp g
    · exact wide_vcs hp (fun x hx => hr x (List.mem_cons_of_mem _ hx)) v e
theorem wide_len (hl : rows.length = right.length) : (mWide p rows right).length = rows.length := by
  unfold mWide
  rw [List.length_zipWith, ← hl, Nat.min_self]
/-- either the last column is a pivot, or the pivots are those of the rows -/
theorem piv_cases (hP : PR p) (hR : Vcs p n rows) (hl : rows.length = right.length) : (n : Int) ∈ mPiv p (n + 1) (mWide p rows right) ∨ mPiv p (n + 1) (mWide p rows right) = mPiv p n rows := by
  have e := rRun_take p (n := n) (mWide p rows right) n (Nat.le_refl n)
  rw [wide_take (fun r hr => (hR r hr).1) hl] at e
  have e2 : (rRun p (mWide p rows right) n).piv = mPiv p n rows := by
    show (cutRS n (rRun p (mWide p rows right) n)).piv = _
    rw [e]
    rfl
  unfold mPiv
  rw [rRun_succ]
  cases eh : hds (rRun p (mWide p rows right) n).left n with
  | nil =>
    rw [rStep_nil eh]
    exact .inr e2
  | cons h t =>
    rw [rStep_cons eh]
    exact .inl (List.mem_append_right _ (List.mem_singleton.mpr rfl))
theorem piv_lt (hP : PR p) (hR : Vcs p n rows) {x : Int} (h : x ∈ mPiv p n rows) : 0 ≤ x ∧ x < n := by
  rw [(red_form hP hR).2] at h
  obtain ⟨r, hr, rfl⟩ := List.mem_map.mp h
  have := (red_form hP hR).1.pvn hr
  omega
/-! ### solutions -/
def Fit (p : Int) (rows : List (List Int)) (right : List Int) (v : List Int) : Prop := rows.map (fun r => mDot p r v) = right.map fun g => g % p
theorem cf_app1 {v : List Int} {x : Int} {k : Nat} (h : k < v.length) : cf (v ++ [x]) k = cf v k := by
  show (v ++ [x]).getD k 0 = _
  rw [getD_app1 _ h]
  rfl
theorem cf_app2 {v : List Int} {x : Int} {n : Nat} (h : v.length = n) : cf (v ++ [x]) n = x := by
  subst h
  exact getD_app2 0
theorem dot_wide (hp : 0 < p) {r v : List Int} {g : Int} (hr : r.length = n) (hv : Vc p n v) : mDot p (r ++ [g % p]) (v ++ [p - 1]) = (mDot p r v - g) % p := by
  have e : (r ++ [g % p]).length = n + 1 := by rw [List.length_append, hr]; rfl
  rw [mDot_sm, mDot_sm, e]
  show (sm _ n + cf (r ++ [g % p]) n * cf (v ++ [p - 1]) n) % p = _
  rw [cf_app2 hr, cf_app2 hv.1, sm_congr fun k hk => by rw [cf_app1 (by omega : k < r.length), cf_app1 (by rw [hv.1]; exact hk)], hr, Int.emod_sub_emod, em_al]
  rw [show sm (fun k => cf r k * cf v k) n + g * (p - 1) = sm (fun k => cf r k * cf v k) n - g + p * g by grind]
  exact Int.add_mul_emod_self_left _ _ _
theorem fit_ker (hP : PR p) {v : List Int} (hv : Vc p n v) : ∀ {rows : List (List Int)} {right : List Int}, Vcs p n rows → rows.length = right.length → (Fit p rows right v ↔ ∀ r ∈ mWide p rows right, mDot p r (v ++ [p - 1]) = 0)
  | [], [], _, _ => ⟨fun _ r hr => absurd hr (by simp [mWide]), fun _ => rfl⟩
  | [], _ :: _, _, h => by simp at h
  | _ :: _, [], _, h => by simp at h
  | r :: rows, g :: right, hR, h => by
    have ih := fit_ker hP hv (rows := rows) (right := right) (fun x hx => hR x (List.mem_cons_of_mem _ hx)) (by simpa using h)
    have hp := hP.pos
    have key : mDot p r v = g % p ↔ mDot p (r ++ [g % p]) (v ++ [p - 1]) = 0 := by
      rw [dot_wide hp (hR r List.mem_cons_self).1 hv]
      have h1 : mDot p r v % p = mDot p r v := by
        rw [mDot_sm, Int.emod_emod]
      rw [← Int.emod_emod_of_dvd (mDot p r v - g) (Int.dvd_refl p)]
      constructor
      · intro e
        rw [e, Int.emod_emod, Int.emod_sub_emod, Int.sub_self, Int.zero_emod]
      · intro e
        rw [Int.emod_emod] at e
        have h2 := Int.emod_emod_of_dvd g (Int.dvd_refl p)
        rw [← h1]
        have h3 : (mDot p r v - g + g) % p = (0 + g) % p := by rw [← Int.emod_add_emod, e]
        rw [Int.sub_add_cancel, Int.zero_add] at h3
        exact h3
    unfold Fit at ih ⊢
    show (mDot p r v :: rows.map (fun r => mDot p r v) = g % p :: right.map fun g => g % p) ↔ ∀ x ∈ (r ++ [g % p]) :: mWide p rows right, _
    rw [List.cons.injEq, key, ih]
    simp
theorem fit_in (hP : PR p) (hR : Vcs p n rows) (hl : rows.length = right.length) {v : List Int} (hv : Vc p n v) : Fit p rows right v ↔ InKer p (n + 1) (mRed p (n + 1) (mWide p rows right)) (v ++ [p - 1]) := by
  have hW := wide_vcs (right := right) hP.pos hR
  rw [fit_ker hP hv hR hl, InKer.same hP (red_vcs hP hW) hW (red_in hP hW)]
  refine ⟨fun h => ⟨⟨by rw [List.length_append, hv.1]; rfl, fun x hx => ?_⟩, h⟩, fun h => h.2⟩
  rcases List.mem_append.mp hx with h | h
  · exact hv.2 x h
  · rw [List.mem_singleton.mp h]
    have := hP.pos
    omega
theorem fit_none (hP : PR p) (hR : Vcs p n rows) (hl : rows.length = right.length) (h : (n : Int) ∈ mPiv p (n + 1) (mWide p rows right)) {v : List Int} (hv : Vc p n v) : ¬ Fit p rows right v := by
  intro hf
  have hW := wide_vcs (right := right) hP.pos hR
  have hF := (red_form hP hW).1
  have hA := red_vcs hP hW
  have hk := (fit_in hP hR hl hv).mp hf
  rw [(red_form hP hW).2] at h
  obtain ⟨r, hr, e⟩ := List.mem_map.mp h
  have e' : mPv r = n := by omega
  have hne : nz r ≠ [] := by
    obtain ⟨i, hi, e⟩ := hF.pvs hr
    rw [← e]
    exact hF.ne i hi
  have h0 := (nz_low hne).1
  have h1 := one_piv hF hr
  rw [e'] at h0 h1
  have h2 := hk.2 r hr
  rw [mDot_sm, (hA r hr).1, sm_one (a := n) (Nat.lt_succ_self n) fun k hk hne => by rw [h0 k (by omega), Int.zero_mul], h1, cf_app2 hv.1, Int.one_mul] at h2
  have := hP.two
  rw [Int.emod_eq_of_lt (by omega) (by omega)] at h2
  omega
theorem sfold {n : Nat} {f : Nat} : ∀ {l : List (List Int)} {row : List Int}, Vc p n row → (∀ r ∈ l, mPv r < n ∧ 0 ≤ cf r f ∧ cf r f < p) → (l.map mPv).Pairwise (· < ·) →
    Vc p n (l.foldl (fun z line => z.set (mPv line) (cf line f)) row) ∧ (∀ k, (∀ r ∈ l, mPv r ≠ k) → cf (l.foldl (fun z line => z.set (mPv line) (cf line f)) row) k = cf row k) ∧ ∀ r ∈ l, cf (l.foldl (fun z line => z.set (mPv line) (cf line f)) row) (mPv r) = cf r f
  | [], row, h, _, _ => ⟨h, fun _ _ => rfl, fun r hr => absurd hr (by simp)⟩
  | r :: l, row, h, hl, hs => by
    rw [List.map_cons, List.pairwise_cons] at hs
    have hrn := hl r List.mem_cons_self
    have h1 : Vc p n (row.set (mPv r) (cf r f)) := ⟨by rw [List.length_set]; exact h.1, fun y hy => by
      rcases List.mem_or_eq_of_mem_set hy with e | e
      · exact h.2 y e
      · rw [e]
        exact hrn.2⟩
    obtain ⟨g1, g2, g3⟩ := sfold (f := f) (l := l) (row := row.set (mPv r) (cf r f)) h1 (fun x hx => hl x (List.mem_cons_of_mem _ hx)) hs.2
    have hc : ∀ k, cf (row.set (mPv r) (cf r f)) k = if k = mPv r then cf r f else cf row k := fun k => cf_set (by rw [h.1]; exact hrn.1)
    refine ⟨g1, fun k hk => ?_, fun x hx => ?_⟩
    · rw [List.foldl_cons, g2 k fun x hx => hk x (List.mem_cons_of_mem _ hx), hc, if_neg fun e => hk r List.mem_cons_self e.symm]
    · rcases List.mem_cons.mp hx with e | e
      · rw [e, List.foldl_cons, g2 (mPv r) fun y hy e2 => by
          have := hs.1 (mPv y) (List.mem_map.mpr ⟨y, hy, rfl⟩)
          omega]
        rw [hc, if_pos rfl]
      · rw [List.foldl_cons]
        exact g3 x e
theorem solV_spec (hP : PR p) (hR : Vcs p n rows) (h : (n : Int) ∉ mPiv p (n + 1) (mWide p rows right)) :
    (∀ r ∈ mRed p (n + 1) (mWide p rows right), mPv r < n) ∧ Vc p n (mSolV n (mRed p (n + 1) (mWide p rows right))) ∧ (∀ k, (∀ r ∈ mRed p (n + 1) (mWide p rows right), mPv r ≠ k) → cf (mSolV n (mRed p (n + 1) (mWide p rows right))) k = 0) ∧ ∀ r ∈ mRed p (n + 1) (mWide p rows right), cf (mSolV n (mRed p (n + 1) (mWide p rows right))) (mPv r) = cf r n := by
  have hW := wide_vcs (right := right) hP.pos hR
  have hF := (red_form hP hW).1
  have hA := red_vcs hP hW
  rw [(red_form hP hW).2] at h
  have hlt : ∀ r ∈ mRed p (n + 1) (mWide p rows right), mPv r < n := fun r hr => by
    have h1 := hF.pvn hr
    have h2 : mPv r ≠ n := fun e => h (List.mem_map.mpr ⟨r, hr, by rw [e]⟩)
    omega
  obtain ⟨g1, g2, g3⟩ := sfold (p := p) (n := n) (f := n) (l := mRed p (n + 1) (mWide p rows right)) (row := zer n) (Vc.zer hP.pos) (fun r hr => ⟨hlt r hr, (hA r hr).cf hP.pos n⟩) hF.sorted
  exact ⟨hlt, g1, fun k hk => by
    have := g2 k hk
    rw [cf_zer] at this
    exact this, g3⟩
theorem dot_sol (hP : PR p) (hR : Vcs p n rows) {r v : List Int} (hr : r ∈ mRed p (n + 1) (mWide p rows right)) (hv : Vc p n v) (hlt : mPv r < n) (h0 : ∀ k, k < n → (∀ r ∈ mRed p (n + 1) (mWide p rows right), mPv r ≠ k) → cf v k = 0) : mDot p r (v ++ [p - 1]) = (cf v (mPv r) - cf r n) % p := by
  have hW := wide_vcs (right := right) hP.pos hR
  have hF := (red_form hP hW).1
  have hA := red_vcs hP hW
  rw [mDot_sm, (hA r hr).1]
  show (sm _ n + cf r n * cf (v ++ [p - 1]) n) % p = _
  rw [cf_app2 hv.1, sm_congr fun k hk => by rw [cf_app1 (by rw [hv.1]; exact hk : k < v.length)], sm_one (a := mPv r) hlt fun k hk hne => ?_]
  · rw [one_piv hF hr, Int.one_mul, show cf v (mPv r) + cf r n * (p - 1) = cf v (mPv r) - cf r n + p * cf r n by grind]
    exact Int.add_mul_emod_self_left _ _ _
  · by_cases c : ∃ s ∈ mRed p (n + 1) (mWide p rows right), mPv s = k
    · obtain ⟨s, hs, rfl⟩ := c
      rw [off_piv hF hr hs hne, Int.zero_mul]
    · rw [h0 k hk fun s hs e => c ⟨s, hs, e⟩, Int.mul_zero]
/-- the told row is a solution, and the only one that is 0 at the free places -/
theorem sol_fit (hP : PR p) (hR : Vcs p n rows) (hl : rows.length = right.length) (h : (n : Int) ∉ mPiv p (n + 1) (mWide p rows right)) : Fit p rows right (mSolV n (mRed p (n + 1) (mWide p rows right))) := by
  obtain ⟨h1, h2, h3, h4⟩ := solV_spec (right := right) hP hR h
  have hp := hP.pos
  rw [fit_in hP hR hl h2]
  refine ⟨⟨by rw [List.length_append, h2.1]; rfl, fun x hx => ?_⟩, fun r hr => ?_⟩
  · rcases List.mem_append.mp hx with h | h
    · exact h2.2 x h
    · rw [List.mem_singleton.mp h]
      omega
  · rw [dot_sol hP hR hr h2 (h1 r hr) fun k _ hk => h3 k hk, h4 r hr, Int.sub_self, Int.zero_emod]
theorem sol_uni (hP : PR p) (hR : Vcs p n rows) (hl : rows.length = right.length) (h : (n : Int) ∉ mPiv p (n + 1) (mWide p rows right)) {v : List Int} (hv : Vc p n v) (hf : Fit p rows right v) (h0 : ∀ k, k < n → (k : Int) ∉ mPiv p n rows → cf v k = 0) : v = mSolV n (mRed p (n + 1) (mWide p rows right)) := by
  obtain ⟨h1, h2, h3, h4⟩ := solV_spec (right := right) hP hR h
  have hp := hP.pos
  have hW := wide_vcs (right := right) hP.pos hR
  have e : mPiv p (n + 1) (mWide p rows right) = mPiv p n rows := by
    rcases piv_cases hP hR hl with c | c
    · exact absurd c h
    · exact c
  have h0' : ∀ k, k < n → (∀ r ∈ mRed p (n + 1) (mWide p rows right), mPv r ≠ k) → cf v k = 0 := fun k hk hn => h0 k hk fun z => by
    rw [← e, (red_form hP hW).2] at z
    obtain ⟨r, hr, e2⟩ := List.mem_map.mp z
    exact hn r hr (by omega)
  have hk := (fit_in hP hR hl hv).mp hf
  refine vext0 hv.1 h2.1 fun k hk2 => ?_
  by_cases c : ∃ s ∈ mRed p (n + 1) (mWide p rows right), mPv s = k
  · obtain ⟨s, hs, rfl⟩ := c
    have h5 := hk.2 s hs
    rw [dot_sol hP hR hs hv hk2 h0'] at h5
    rw [h4 s hs, ← hv.md hp, ← (red_vcs hP hW s hs).md hp n]
    have h6 : (cf v (mPv s) - cf s n + cf s n) % p = (0 + cf s n) % p := by rw [← Int.emod_add_emod, h5]
    rw [Int.sub_add_cancel, Int.zero_add] at h6
    exact h6
  · rw [h0' k hk2 fun s hs e => c ⟨s, hs, e⟩, h3 k fun s hs e => c ⟨s, hs, e⟩]
theorem sol_free (hP : PR p) (hR : Vcs p n rows) (hl : rows.length = right.length) (h : (n : Int) ∉ mPiv p (n + 1) (mWide p rows right)) {k : Nat} (hk : (k : Int) ∉ mPiv p n rows) : cf (mSolV n (mRed p (n + 1) (mWide p rows right))) k = 0 := by
  obtain ⟨h1, h2, h3, h4⟩ := solV_spec (right := right) hP hR h
  have hW := wide_vcs (right := right) hP.pos hR
  have e : mPiv p (n + 1) (mWide p rows right) = mPiv p n rows := by
    rcases piv_cases hP hR hl with c | c
    · exact absurd c h
    · exact c
  refine h3 k fun r hr e2 => hk ?_
  rw [← e, (red_form hP hW).2]
  exact List.mem_map.mpr ⟨r, hr, by rw [e2]⟩
end
end Dl
set_option Elab.async false
set_option linter.all false
set_option maxRecDepth 100000
set_option maxHeartbeats 2000000
/-! ZipM: zip over a list or a tuple on either side. -/
namespace ZipM
open PySem PySem.Spec PyProof.Rows L2
/-- true: a tuple; false: a list -/
def SqK (k : Bool) (K : PySem.W.Frag) (H : Hp) (a : Addr) (xs : List V) : Prop := match k with | true => SqT K H a xs | false => SqL K H a xs
def itK (k : Bool) (h : Heap) (it l : Addr) (i : Nat) : Prop := match k with | true => h.IsTupleIter it l i | false => h.IsListIter it l i
def arK (k : Bool) (h : Heap) (l : Addr) (xs : Array Value) : Prop := match k with | true => h.IsTuple l xs | false => h.IsList l xs
theorem drawsK {prog : Program} {w : World} {A : Around} (hh : A.handled = none) (k : Bool) (it l : Addr) (ne : l ≠ it) (items : Array Value) : Draws prog w A it [it, l] items.size (fun i v => items[i]? = some v) (fun i h => itK k h it l i ∧ arK k h l items) := by
  cases k with
  | true => exact Draws.tuple hh it l ne items
  | false => exact Draws.list hh it l ne items
theorem itK.obj {k : Bool} {h : Heap} {it l : Addr} {i : Nat} (e : itK k h it l i) : ∃ o, h.get? it = some o ∧ ∀ v, o.data ≠ .cell v := by
  cases k with
  | true =>
    obtain ⟨o, e1, _, d1⟩ := e
    exact ⟨o, e1, fun v q => by rw [d1] at q; cases q⟩
  | false =>
    obtain ⟨o, e1, _, d1⟩ := e
    exact ⟨o, e1, fun v q => by rw [d1] at q; cases q⟩
theorem itK.at {k : Bool} {h h' : Heap} {it l : Addr} {i : Nat} (e : itK k h it l i) (f : ∀ o, h.get? it = some o → h'.get? it = some o) : itK k h' it l i := by
  cases k with
  | true => exact Heap.IsTupleIter.at e f
  | false => exact Heap.IsListIter.at e f
theorem itK.lt {k : Bool} {h : Heap} {it l : Addr} {i : Nat} (e : itK k h it l i) : it < h.objs.size := by
  obtain ⟨o, e1, _⟩ := e.obj
  exact Heap.lt_size e1
section
variable {X : Cx} {pins : List (Addr × Obj)} {σ : L2.St} {H : Hp} {s : Shared}
theorem seqK {k : Bool} (I : Inv X pins σ H s) {a : Addr} {xs : List V} (h : SqK k X.K H a xs) : ∃ its : List Value, Vals xs its ∧ arK k s.heap a its.toArray ∧ a < s.heap.objs.size := by
  cases k with
  | true =>
    obtain ⟨its, rv, p, _⟩ := I.tuple h
    obtain ⟨o, e, _⟩ := id p
    exact ⟨its, rv, show s.heap.IsTuple a its.toArray from p, Heap.lt_size e⟩
  | false =>
    obtain ⟨its, rv, p, _⟩ := I.list h
    exact ⟨its, rv, p.isList, p.lt⟩
theorem injK {k : Bool} (I : Inv X pins σ H s) {a : Addr} {xs ys : List V} (h : SqK k X.K H a xs) (h' : SqK k X.K H a ys) : xs = ys := by
  cases k with
  | true => exact I.tuple_inj h h'
  | false => exact I.list_inj h h'
end
def ItzM (K : PySem.W.Frag) (k1 k2 : Bool) (a b : Addr) : It where
  go i H := ∃ (us ws : List V) (u v : V), SqK k1 K H a us ∧ SqK k2 K H b ws ∧ us[i]? = some u ∧ ws[i]? = some v
  yld i H r H' := ∃ T u v, r = .ref T ∧ H T = none ∧ H' = upd H T (.tup [u, v]) ∧ (∀ us, SqK k1 K H a us → us[i]? = some u) ∧ ∀ ws, SqK k2 K H b ws → ws[i]? = some v
  stop i H := ∃ us ws : List V, SqK k1 K H a us ∧ SqK k2 K H b ws ∧ i ≤ us.length ∧ i ≤ ws.length ∧ (i = us.length ∨ i = ws.length)
theorem turn_zipM {P : Program} {w : World} {K : PySem.W.Frag} {elts : List Expr} {kk : Nat} {tpos : Pos} {a b z TI TO i1 i2 : Addr} {k1 k2 : Bool} (S : ZipSep2 z TI TO i1 i2 [i1, a] [i2, b]) (na : a ≠ i1) (nb : b ≠ i2) :
    Turn P w K (.Tuple elts kk tpos) (ItzM K k1 k2 a b) [z, TI, TO, i1, i2] z (fun i h => IsZip h z TI TO .none ∧ IsPair h TI (.ref i1) (.ref i2) ∧ (∃ x y, IsPair h TO x y) ∧ itK k1 h i1 a i ∧ itK k2 h i2 b i) where
  mem := List.mem_cons_self
  obj := fun i h ⟨hz, hTI, ⟨x, y, hTO⟩, h1, h2⟩ c hc => by
    rcases (show c = z ∨ c = TI ∨ c = TO ∨ c = i1 ∨ c = i2 by simpa using hc) with q | q | q | q | q
    · subst q; exact ⟨_, hz, fun v e => nomatch e⟩
    · subst q; exact ⟨_, hTI, fun v e => nomatch e⟩
    · subst q; exact ⟨_, hTO, fun v e => nomatch e⟩
    · subst q; exact h1.obj
    · subst q; exact h2.obj
  keep := fun i h h' ⟨hz, hTI, ⟨x, y, hTO⟩, h1, h2⟩ k => ⟨k z (by simp) _ hz, k TI (by simp) _ hTI, ⟨x, y, k TO (by simp) _ hTO⟩, h1.at fun o q => k i1 (by simp) o q, h2.at fun o q => k i2 (by simp) o q⟩
  item := by
    rintro X rfl rfl rfl hc i pins s σ H E I hf ⟨hz, hTI, ⟨x0, y0, hTO⟩, h1, h2⟩ ⟨us, ws, u, v, hqx, hqy, hx, hy⟩
    obtain ⟨its, rv, p, pl⟩ := seqK I hqx
    obtain ⟨its2, rv2, p2, pl2⟩ := seqK I hqy
    obtain ⟨x, hu, ru⟩ := rv.get hx
    obtain ⟨y, hv, ru2⟩ := rv2.get hy
    have li : i < its.toArray.size := by
      have := (List.getElem?_eq_some_iff.mp hu).1
      simpa using this
    have li2 : i < its2.toArray.size := by
      have := (List.getElem?_eq_some_iff.mp hv).1
      simpa using this
    have hzl : z < s.heap.objs.size := Heap.lt_size hz
    have hh : X.A.in1.handled = none := I.ok.hd hc
    refine wpAny_pyNext_zipD2_item S (drawsK hh k1 i1 a na its.toArray) (drawsK hh k2 i2 b nb its2.toArray) hz hTI hTO ⟨h1, p⟩ ⟨h2, p2⟩ li li2 fun x1 x2 g tk e1 e2 gz gTO gs1 gs2 gT gsz gk => ?_
    have ex1 : x1 = x := by
      have : its.toArray[i]? = some x := by simpa using hu
      exact Option.some.inj (e1.symm.trans this)
    have ex2 : x2 = y := by
      have : its2.toArray[i]? = some y := by simpa using hv
      exact Option.some.inj (e2.symm.trans this)
    subst ex1 ex2
    refine ⟨_, rfl, wpAny_letOwnedTupleGo_zip (s := { s with heap := g, toks := tk }) gz fun g2 z2 sb => ?_⟩
    have gT2 : g2.get? s.heap.objs.size = some { cls := .type "tuple", data := .seq #[x1, x2] } := (sb.2 _ (Nat.ne_of_gt hzl)).trans gT
    have new : ObjOk X.prog X.w (upd H s.heap.objs.size (.tup [u, v])) g2 s.heap.objs.size (.tup [u, v]) := ⟨show 2 ≤ sizeLine by decide, [x1, x2], .cons ru (.cons ru2 .nil), ⟨_, gT2, rfl, _, rfl⟩⟩
    have I1 : Inv X pins σ (upd H s.heap.objs.size (.tup [u, v])) { s with heap := g2, toks := tk } := by
      refine I.turnedNew (t' := tk) (ch := [z, TI, TO, i1, i2]) (fun c o hb q => ?_) hf (Nat.le_refl _) new
      have nz : c ≠ z := fun e => hb (by simp [e])
      exact (sb.2 c nz).trans (gk c o nz (fun e => hb (by simp [e])) (fun e => hb (by simp [e])) (fun e => hb (by simp [e])) q)
    have lts : ∀ c ∈ [z, TI, TO, i1, i2], c < s.heap.objs.size := fun c hcm => by
      rcases (show c = z ∨ c = TI ∨ c = TO ∨ c = i1 ∨ c = i2 by simpa using hcm) with q | q | q | q | q
      · subst q; exact hzl
      · subst q; exact Heap.lt_size hTI
      · subst q; exact Heap.lt_size hTO
      · subst q; exact h1.lt
      · subst q; exact h2.lt
    refine ⟨.ref s.heap.objs.size, _, I1, rfl, ⟨_, u, v, rfl, I.hok.fresh (Nat.le_refl _), rfl, fun l hl => by rw [injK I hl hqx]; exact hx, fun l hl => by rw [injK I hl hqy]; exact hy⟩, ⟨z2, (sb.2 _ S.TIz).trans (gk _ _ S.TIz S.TITO S.TIi1 S.TIi2 hTI), ⟨x1, x2, (sb.2 _ S.TOz).trans gTO⟩, gs1.1.at fun o q => (sb.2 _ S.zi1.symm).trans q, gs2.1.at fun o q => (sb.2 _ S.zi2.symm).trans q⟩, fun c hcm => ?_⟩
    rw [upd_ne (Nat.ne_of_lt (lts c hcm))]
    exact (hf c hcm).1
  done := by
    rintro X rfl rfl rfl hc i pins s σ H E I hf ⟨hz, hTI, ⟨x0, y0, hTO⟩, h1, h2⟩ ⟨us, ws, hqx, hqy, hl1, hl2, hend⟩
    obtain ⟨its, rv, p, pl⟩ := seqK I hqx
    obtain ⟨its2, rv2, p2, pl2⟩ := seqK I hqy
    have n1 : its.toArray.size = us.length := by rw [List.size_toArray, rv.length]
    have n2 : its2.toArray.size = ws.length := by rw [List.size_toArray, rv2.length]
    have hh : X.A.in1.handled = none := I.ok.hd hc
    refine wpAny_pyNext_zipD2_end S (drawsK hh k1 i1 a na its.toArray) (drawsK hh k2 i2 b nb its2.toArray) hz hTI hTO ⟨h1, p⟩ ⟨h2, p2⟩ (by omega) (by omega) (by omega) fun g tk gk => ⟨rfl, I.turnedL (t' := tk) (ch := [z, TI, TO, i1, i2]) (fun c o hb q => ?_) hf⟩
    exact gk c o (fun e => hb (by simp [e])) (fun e => hb (by simp [e])) (fun e => hb (by simp [e])) (fun e => hb (by simp [e])) q
  self := fun A i s Q E st h => wpAny_pyIter_zip st.1 h
/-! ### the call -/
def nmK (k : Bool) : String := if k then "tuple_iterator" else "list_iterator"
abbrev mH1 (n1 : String) (h : Heap) (l1 : Addr) : Heap := h.push { cls := .type n1, data := .fields #[.ref l1, .int 0 0] }
abbrev mH2 (n1 n2 : String) (h : Heap) (l1 l2 : Addr) : Heap := (mH1 n1 h l1).push { cls := .type n2, data := .fields #[.ref l2, .int 0 0] }
abbrev mH3 (n1 n2 : String) (h : Heap) (l1 l2 : Addr) : Heap := (mH2 n1 n2 h l1 l2).push { cls := .type "tuple", data := .seq #[.ref h.objs.size, .ref (mH1 n1 h l1).objs.size] }
abbrev mH4 (n1 n2 : String) (h : Heap) (l1 l2 : Addr) : Heap := (mH3 n1 n2 h l1 l2).push { cls := .type "tuple", data := .seq #[.none, .none] }
abbrev mH5 (n1 n2 : String) (h : Heap) (l1 l2 : Addr) : Heap := (mH4 n1 n2 h l1 l2).push { cls := .type "zip", data := .fields #[.none, .bool false, .bool false, .ref (mH2 n1 n2 h l1 l2).objs.size, .ref (mH3 n1 n2 h l1 l2).objs.size] }
theorem meets_LT (l1 l2 : Addr) (xs ys : Array Value) : Meets (Builtin.«zip.__new__» ⟨[.type "zip", .ref l1, .ref l2], []⟩) (fun _ R s => s.heap.IsList l1 xs ∧ s.heap.IsTuple l2 ys ∧ R (.ok (.ret (.ref (mH4 "list_iterator" "tuple_iterator" s.heap l1 l2).objs.size))) { s with heap := mH5 "list_iterator" "tuple_iterator" s.heap l1 l2 }) := .of_wp fun prog w A R s h => by
  obtain ⟨hp, g, d, tk, os⟩ := s
  obtain ⟨hl1, hl2, h⟩ := h
  have hsub := sub_zip
  have q1 : Heap.IsList (Shared.heap ⟨hp, g, d, tk, os⟩) l1 xs := hl1
  have q2 : Heap.IsTuple (Shared.heap ⟨hp.push { cls := .type "list_iterator", data := .fields #[.ref l1, .int 0 0] }, g, d, tk, os⟩) l2 ys := Heap.IsTuple.push hl2 _
  wp_walk using wpAny_pyIter_list q1, wpAny_pyIter_tuple q2
  exact ⟨_, rfl, h⟩
theorem meets_TL (l1 l2 : Addr) (xs ys : Array Value) : Meets (Builtin.«zip.__new__» ⟨[.type "zip", .ref l1, .ref l2], []⟩) (fun _ R s => s.heap.IsTuple l1 xs ∧ s.heap.IsList l2 ys ∧ R (.ok (.ret (.ref (mH4 "tuple_iterator" "list_iterator" s.heap l1 l2).objs.size))) { s with heap := mH5 "tuple_iterator" "list_iterator" s.heap l1 l2 }) := .of_wp fun prog w A R s h => by
  obtain ⟨hp, g, d, tk, os⟩ := s
  obtain ⟨hl1, hl2, h⟩ := h
  have hsub := sub_zip
  have q1 : Heap.IsTuple (Shared.heap ⟨hp, g, d, tk, os⟩) l1 xs := hl1
  have q2 : Heap.IsList (Shared.heap ⟨hp.push { cls := .type "tuple_iterator", data := .fields #[.ref l1, .int 0 0] }, g, d, tk, os⟩) l2 ys := Heap.IsList.push hl2 _
  wp_walk using wpAny_pyIter_tuple q1, wpAny_pyIter_list q2
  exact ⟨_, rfl, h⟩
theorem mH_facts (n1 n2 : String) (h : Heap) (l1 l2 : Addr) : (mH5 n1 n2 h l1 l2).objs.size = h.objs.size + 5 ∧ (mH4 n1 n2 h l1 l2).objs.size = h.objs.size + 4 ∧ IsZip (mH5 n1 n2 h l1 l2) (h.objs.size + 4) (h.objs.size + 2) (h.objs.size + 3) .none ∧ IsPair (mH5 n1 n2 h l1 l2) (h.objs.size + 2) (.ref h.objs.size) (.ref (h.objs.size + 1)) ∧ IsPair (mH5 n1 n2 h l1 l2) (h.objs.size + 3) .none .none ∧
    (mH5 n1 n2 h l1 l2).get? h.objs.size = some { cls := .type n1, data := .fields #[.ref l1, .int 0 0] } ∧ (mH5 n1 n2 h l1 l2).get? (h.objs.size + 1) = some { cls := .type n2, data := .fields #[.ref l2, .int 0 0] } ∧ ∀ c o, h.get? c = some o → (mH5 n1 n2 h l1 l2).get? c = some o := by
  have z1 : (mH1 n1 h l1).objs.size = h.objs.size + 1 := Heap.size_push ..
  have z2 : (mH2 n1 n2 h l1 l2).objs.size = h.objs.size + 2 := by rw [Heap.size_push, z1]
  have z3 : (mH3 n1 n2 h l1 l2).objs.size = h.objs.size + 3 := by rw [Heap.size_push, z2]
  have z4 : (mH4 n1 n2 h l1 l2).objs.size = h.objs.size + 4 := by rw [Heap.size_push, z3]
  have z5 : (mH5 n1 n2 h l1 l2).objs.size = h.objs.size + 5 := by rw [Heap.size_push, z4]
  have up5 : ∀ c o, (mH4 n1 n2 h l1 l2).get? c = some o → (mH5 n1 n2 h l1 l2).get? c = some o := fun c o e => Heap.get?_push_of_some _ e
  have up4 : ∀ c o, (mH3 n1 n2 h l1 l2).get? c = some o → (mH5 n1 n2 h l1 l2).get? c = some o := fun c o e => up5 c o (Heap.get?_push_of_some _ e)
  have up3 : ∀ c o, (mH2 n1 n2 h l1 l2).get? c = some o → (mH5 n1 n2 h l1 l2).get? c = some o := fun c o e => up4 c o (Heap.get?_push_of_some _ e)
  have up2 : ∀ c o, (mH1 n1 h l1).get? c = some o → (mH5 n1 n2 h l1 l2).get? c = some o := fun c o e => up3 c o (Heap.get?_push_of_some _ e)
  have g5 : (mH5 n1 n2 h l1 l2).get? (mH4 n1 n2 h l1 l2).objs.size = some _ := Heap.get?_push_size _ rfl
  have g4 := up5 _ _ (Heap.get?_push_size (mH3 n1 n2 h l1 l2) (o := { cls := .type "tuple", data := .seq #[.none, .none] }) rfl)
  have g3 := up4 _ _ (Heap.get?_push_size (mH2 n1 n2 h l1 l2) (o := { cls := .type "tuple", data := .seq #[.ref h.objs.size, .ref (mH1 n1 h l1).objs.size] }) rfl)
  have g2 := up3 _ _ (Heap.get?_push_size (mH1 n1 h l1) (o := { cls := .type n2, data := .fields #[.ref l2, .int 0 0] }) rfl)
  have g1 := up2 _ _ (Heap.get?_push_size h (o := { cls := .type n1, data := .fields #[.ref l1, .int 0 0] }) rfl)
  rw [z4, z2, z3] at g5
  rw [z3] at g4
  rw [z2, z1] at g3
  rw [z1] at g2
  exact ⟨z5, z4, g5, g3, g4, g1, g2, fun c o e => up2 c o (Heap.get?_push_of_some _ e)⟩
section
variable {prog : Program} {w : World} {A : Around} {E : Value → Shared → Prop} {s : Shared}
theorem call_zipM {k1 k2 : Bool} {l1 l2 : Addr} {xs ys : Array Value} {Q : Value → Shared → Prop} (hl1 : arK k1 s.heap l1 xs) (hl2 : arK k2 s.heap l2 ys)
    (h : ∀ g, IsZip g (s.heap.objs.size + 4) (s.heap.objs.size + 2) (s.heap.objs.size + 3) .none ∧ IsPair g (s.heap.objs.size + 2) (.ref s.heap.objs.size) (.ref (s.heap.objs.size + 1)) ∧ (∃ x y, IsPair g (s.heap.objs.size + 3) x y) ∧ itK k1 g s.heap.objs.size l1 0 ∧ itK k2 g (s.heap.objs.size + 1) l2 0 →
      (∀ c o, s.heap.get? c = some o → g.get? c = some o) → Q (.ref (s.heap.objs.size + 4)) { s with heap := g }) : wpAny (model prog w) A (call (.type "zip") [.ref l1, .ref l2]) Q E s := by
  have mk : ∀ n1 n2 : String, (itK k1 (mH5 n1 n2 s.heap l1 l2) s.heap.objs.size l1 0 ∧ itK k2 (mH5 n1 n2 s.heap l1 l2) (s.heap.objs.size + 1) l2 0) → (∃ o, (mH5 n1 n2 s.heap l1 l2).get? (s.heap.objs.size + 4) = some o ∧ o.cls = .type "zip") ∧ Q (.ref (s.heap.objs.size + 4)) { s with heap := mH5 n1 n2 s.heap l1 l2 } := fun n1 n2 hi => by
    obtain ⟨_, _, f1, f2, f3, _, _, f6⟩ := mH_facts n1 n2 s.heap l1 l2
    exact ⟨⟨_, f1, rfl⟩, h _ ⟨f1, f2, ⟨_, _, f3⟩, hi.1, hi.2⟩ f6⟩
  cases k1 with
  | false =>
    cases k2 with
    | false => exact call_zip_2 hl1 hl2 fun g a1 a2 a3 a4 a5 _ a7 => h g ⟨a1, a2, ⟨_, _, a3⟩, a4, a5⟩ a7
    | true =>
      refine callType_new F.called_zip (by decide) (F.typeCall_zip_2 _ _) (F.newCall_zip_2 _ _) (fun obj => F.args_object_init_3 obj _ _) F.entry_zip_new (meets_LT l1 l2 xs ys) ⟨hl1, hl2, ?_⟩
      obtain ⟨_, f0, _, _, _, f4, f5, _⟩ := mH_facts "list_iterator" "tuple_iterator" s.heap l1 l2
      show _ ∧ _
      rw [f0]
      exact mk _ _ ⟨⟨_, f4, rfl, rfl⟩, ⟨_, f5, rfl, rfl⟩⟩
  | true =>
    cases k2 with
    | true => exact RZ.call_zipT hl1 hl2 fun g a1 a2 a3 a4 a5 _ a7 => h g ⟨a1, a2, ⟨_, _, a3⟩, a4, a5⟩ a7
    | false =>
      refine callType_new F.called_zip (by decide) (F.typeCall_zip_2 _ _) (F.newCall_zip_2 _ _) (fun obj => F.args_object_init_3 obj _ _) F.entry_zip_new (meets_TL l1 l2 xs ys) ⟨hl1, hl2, ?_⟩
      obtain ⟨_, f0, _, _, _, f4, f5, _⟩ := mH_facts "tuple_iterator" "list_iterator" s.heap l1 l2
      show _ ∧ _
      rw [f0]
      exact mk _ _ ⟨⟨_, f4, rfl, rfl⟩, ⟨_, f5, rfl, rfl⟩⟩
end
def iZipM (K : PySem.W.Frag) (ta : TA) : TI := fun σ H R => ta σ H fun vs H1 => ∃ (a b : Addr) (xs ys : List V) (k1 k2 : Bool), vs = [.ref a, .ref b] ∧ SqK k1 K H1 a xs ∧ SqK k2 K H1 b ys ∧ R (ItzM K k1 k2 a b) H1
theorem pi_zipM {X : Cx} (K : PySem.W.Frag) {e e2 : Expr} {ta : TA} {p pos tpos : Pos} {elts : List Expr} {kk : Nat} (hg : Gl X "zip") (hm : X.mg "zip" = none) (ha : PA X [e, e2] ta) (hK : X.K = K := by rfl)
    (hs : starEach [e, e2] X.env = (false, eval e X.env) :: starEach [e2] X.env := by rfl) (hpl : (backTo pos (starEach [e2] X.env)).any (·.1) = false := by rfl) :
    PI X (.Tuple elts kk tpos) (.Call (.Name "zip" p) [e, e2] [] pos) (iZipM K ta) := by
  subst hK
  refine ⟨fun pins s σ H R I h => Call_ (ld_blt I hg hm PyProof.Rows.boot_zip (PyProof.Rows.callWith_type1 (thn (ha.run pos pins s σ H _ I h) fun us s1 ⟨vs, H1, I1, r1, a, b, xs, ys, k1, k2, ex, hx, hy, q⟩ => ?_) hs hpl))⟩
  subst ex
  cases r1 with
  | cons r rr =>
    cases rr with
    | cons r2 rr =>
      cases rr
      cases r
      cases r2
      obtain ⟨its, _, p1, l1⟩ := seqK I1 hx
      obtain ⟨its2, _, p2, l2⟩ := seqK I1 hy
      refine call_zipM p1 p2 fun g st gk => wpAny_pyIter_zip st.1 ?_
      have sep : ZipSep2 (s1.heap.objs.size + 4) (s1.heap.objs.size + 2) (s1.heap.objs.size + 3) s1.heap.objs.size (s1.heap.objs.size + 1) [s1.heap.objs.size, a] [s1.heap.objs.size + 1, b] := zip_sep2 (fun c hc => by rw [List.mem_singleton.mp hc]; exact l1) (fun c hc => by rw [List.mem_singleton.mp hc]; exact l2)
      refine ⟨s1.heap.objs.size + 4, _, _, _, H1, rfl, I1.kept (t' := s1.toks) gk, turn_zipM sep (Nat.ne_of_lt l1) (Nat.ne_of_lt (Nat.lt_succ_of_lt l2)), st, fun c hcm => ?_, q⟩
      have hle : s1.heap.objs.size ≤ c := by
        rcases (show c = s1.heap.objs.size + 4 ∨ c = s1.heap.objs.size + 2 ∨ c = s1.heap.objs.size + 3 ∨ c = s1.heap.objs.size ∨ c = s1.heap.objs.size + 1 by simpa using hcm) with e | e | e | e | e <;> rw [e]
        · exact Nat.le_add_right _ _
        · exact Nat.le_add_right _ _
        · exact Nat.le_add_right _ _
        · exact Nat.le_refl _
        · exact Nat.le_add_right _ _
      exact I1.fpOk hle (I1.hok.fresh hle)
end ZipM
namespace Dl
open PySem PySem.Spec PyProof.Rows L2
variable {F : Fm} {ks : List Kd}
def seqD (k : Bool) (ds : List D) : D := if k then .tup ds else .lst ds
theorem sqK_same {k : Bool} {K : PySem.W.Frag} {H H' : Hp} {a : Addr} {xs : List V} (e : Same H H') (h : ZipM.SqK k K H a xs) : ZipM.SqK k K H' a xs := by
  cases k with
  | true => exact same_t e h
  | false => exact same_l e h
theorem at_seqD {K : PySem.W.Frag} {H : Hp} {k : Bool} {v : V} {ds : List D} (h : At K H v (seqD k ds)) : ∃ a us, v = .ref a ∧ ZipM.SqK k K H a us ∧ Ats K H us ds := by
  cases k with
  | true =>
    cases h with
    | tup h1 h2 => exact ⟨_, _, rfl, h1, h2⟩
  | false =>
    cases h with
    | lst h1 h2 => exact ⟨_, _, rfl, .inl (.inl h1), h2⟩
theorem itzm_ok {k1 k2 : Bool} {a b : Addr} {xs ys : List D} : ItOk F (ZipM.ItzM F.K k1 k2 a b) (zips xs ys) (fun G => (∃ us, ZipM.SqK k1 F.K G a us ∧ Ats F.K G us xs) ∧ ∃ us, ZipM.SqK k2 F.K G b us ∧ Ats F.K G us ys) where
  mono := fun G G' e ⟨⟨us, h1, h2⟩, ws, h3, h4⟩ => ⟨⟨us, sqK_same e h1, h2.mono e⟩, ws, sqK_same e h3, h4.mono e⟩
  go := fun M H i ⟨⟨us, h1, h2⟩, ws, h3, h4⟩ l => by
    rw [zips_length] at l
    have l1 : i < us.length := by rw [h2.length]; omega
    have l2 : i < ws.length := by rw [h4.length]; omega
    exact ⟨us, ws, us[i], ws[i], sqK_same hid_same h1, sqK_same hid_same h3, List.getElem?_eq_getElem l1, List.getElem?_eq_getElem l2⟩
  yld := fun M H i v H' d lv ⟨⟨us, h1, h2⟩, ws, h3, h4⟩ e y => by
    obtain ⟨T, x, y', rfl, nT, rfl, f1, f2⟩ := y
    obtain ⟨dx, dy, e1, e2, e3⟩ := zips_get e
    obtain ⟨vx, g1, g2⟩ := h2.get e1
    obtain ⟨vy, g3, g4⟩ := h4.get e2
    have k1 := f1 us (sqK_same hid_same h1)
    have k2 := f2 ws (sqK_same hid_same h3)
    rw [g1] at k1
    rw [g3] at k2
    cases k1; cases k2
    have sm : Same H (upd H T (.tup [x, y'])) := same_new nT
    have nM : T ∉ M := fun z => by
      obtain ⟨u, q⟩ := lv T z
      rw [nT] at q; cases q
    subst e3
    exact ⟨sm, .tup (.inl (.inl (by rw [hid_out nM, upd_same]))) (.cons (g2.mono (hid_mono sm)) (.cons (g4.mono (hid_mono sm)) .nil))⟩
  stop := fun M H ⟨⟨us, h1, h2⟩, ws, h3, h4⟩ => by
    refine ⟨us, ws, sqK_same hid_same h1, sqK_same hid_same h3, ?_⟩
    rw [zips_length, h2.length, h4.length]
    omega
theorem ei_zipM (k1 k2 : Bool) {ta : TA} {xs ys : List D} (h : EvA F ks ta [seqD k1 xs, seqD k2 ys]) : EvI F ks (ZipM.iZipM F.K ta) (zips xs ys) := fun M σ H o R q => h M σ H o _ fun vs ds H1 o1 s1 a1 e => by
  subst e
  cases a1 with
  | cons a1 a2 =>
    cases a2 with
    | cons a2 a3 =>
      cases a3
      obtain ⟨a, us, rfl, h1, h2⟩ := at_seqD a1
      obtain ⟨b, ws, rfl, h3, h4⟩ := at_seqD a2
      exact ⟨a, b, us, ws, k1, k2, rfl, sqK_same hid_same h1, sqK_same hid_same h3, q _ _ _ H1 o1 s1 rfl itzm_ok ⟨⟨us, h1, h2⟩, ws, h3, h4⟩⟩
end Dl
set_option Elab.async false
set_option linter.all false
set_option maxHeartbeats 2000000
/-! SolDef: kinds of values, lending a list, independent rows, sums with whole multiples. -/
namespace Dl
open PySem PySem.Spec PyProof.Rows L2
variable {F : Fm} {ks : List Kd}
/-- a list of one's own is read in a test -/
theorem et_lend {i : Nat} {ds : List D} {tt : TT} {b : Bool} (hk : ks[i]? = some (.own fun x => x = ds)) (only : (ks.set i (.dat (.lst ds))).all (fun k => !isM k) = true) (h : EvT F (ks.set i (.dat (.lst ds))) tt b) : EvT F ks tt b := fun M σ H o Q q => by
  obtain ⟨M', o'⟩ := o.freeze hk
  refine h M' σ H o' Q fun c H' o2 st r => ?_
  have e : Same H H' := fun a u hu => st a u hu fun ⟨j, k, hj, hm, _⟩ => by
    have := List.all_eq_true.mp only k (List.mem_of_getElem? hj)
    rw [hm] at this
    cases this
  exact q c H' (o.same e) (Step.of e) r
def isInt : D → Bool
  | .int _ => true
  | _ => false
def okT (d : D) : Prop := tyD d ≠ none
theorem int_kit {x : D} (h : okT x) : ∃ nm b1 b2, tyD x = some nm ∧ kitB nm "int" = some b1 ∧ kitB nm "bool" = some b2 ∧ (b1 && !b2) = isInt x := by
  cases x <;> first | exact ⟨_, _, _, rfl, rfl, rfl, rfl⟩ | exact absurd rfl h
def itOk (p : Int) : D → Bool
  | .int i => decide (0 ≤ i) && decide (i < p)
  | _ => false
def isRw (p : Int) (n : Nat) : D → Bool
  | .tup ds => decide (ds.length = n) && ds.all (itOk p)
  | _ => false
theorem isRw_tup (p : Int) (n : Nat) (es : List D) : isRw p n (.tup es) = (decide (es.length = n) && es.all (itOk p)) := rfl
theorem opv_isB {a b : Bool} : OpV F ks rIsB (.bl a) (.bl b) (fun d => d = .bl (decide (a = b))) := fun M σ H o v w h1 h2 Q q => by
  cases h1; cases h2
  exact ⟨a, b, rfl, rfl, q _ _ H o Step.refl (.bl _) rfl⟩
theorem opv_notB {a b : Bool} : OpV F ks rNotB (.bl a) (.bl b) (fun d => d = .bl (!decide (a = b))) := fun M σ H o v w h1 h2 Q q => by
  cases h1; cases h2
  exact ⟨a, b, rfl, rfl, q _ _ H o Step.refl (.bl _) rfl⟩
def optD : Option (List Int) → D
  | none => .non
  | some v => rw v
theorem comb_step {p a : Int} {n : Nat} (hp : 0 < p) {t r : List Int} (ht : Vc p n t) (hr : Vc p n r) : List.zipWith (fun x y => (x + a * y) % p) t r = mAdd p t (mScl p a r) := by
  have hl : (List.zipWith (fun x y => (x + a * y) % p) t r).length = n := by rw [List.length_zipWith, ht.1, hr.1, Nat.min_self]
  refine vext0 hl (ht.add' hp (hr.scl' hp)).1 fun k hk => ?_
  rw [cf_zip (fun x y => (x + a * y) % p) (by rw [ht.1, hr.1]) (by simp), cf_add (by rw [scl_len, ht.1, hr.1]), cf_scl, Int.add_emod_emod, Int.mul_comm a]
theorem dot_zip {p : Int} {v w : List Int} (h : v.length = w.length) : (List.zipWith (fun x y => x * y) v w).sum % p = mDot p v w := by
  unfold mDot
  rw [← map_range_zip (fun x y => x * y) h]
  rfl
def mInd (p : Int) (n : Nat) (rows : List (List Int)) : List (List Int) := rows.foldl (fun F r => if r ∈ mSpan p n F then F else F ++ [r]) []
theorem mInd_snoc (p : Int) (n : Nat) (rows : List (List Int)) (r : List Int) : mInd p n (rows ++ [r]) = if r ∈ mSpan p n (mInd p n rows) then mInd p n rows else mInd p n rows ++ [r] := by
  unfold mInd
  rw [List.foldl_append]
  rfl
theorem mInd_ok {p : Int} {n : Nat} (hP : PR p) (rows : List (List Int)) (hR : Vcs p n rows) : ∀ i, i ≤ rows.length → Vcs p n (mInd p n (rows.take i)) ∧ (mInd p n (rows.take i)).length ≤ i ∧ (spanL p n (mInd p n (rows.take i))).length = p.toNat ^ (mInd p n (rows.take i)).length
  | 0, _ => ⟨fun v hv => absurd hv (by simp [mInd]), by simp [mInd], by simp [mInd, spanL]⟩
  | i + 1, hi => by
    obtain ⟨h1, h2, h3⟩ := mInd_ok hP rows hR i (by omega)
    have e : rows.take (i + 1) = rows.take i ++ [rows[i]] := by rw [List.take_add_one, List.getElem?_eq_getElem (by omega : i < rows.length), Option.toList_some]
    rw [e, mInd_snoc]
    split
    · exact ⟨h1, by omega, h3⟩
    · rename_i c
      have hr := hR rows[i] (List.getElem_mem (by omega))
      rw [mem_mSpan] at c
      refine ⟨fun v hv => ?_, by rw [List.length_append]; show _ + 1 ≤ _; omega, ?_⟩
      · rcases List.mem_append.mp hv with h | h
        · exact h1 v h
        · rw [List.mem_singleton.mp h]; exact hr
      · rw [spanL_snoc]
        unfold spStep
        rw [if_neg c, flatMap_len _ p.toNat fun w => by rw [List.length_map, List.length_range], h3, List.length_append, ← Nat.pow_succ]
        rfl
/-- one solution alone -/
theorem single {α : Type} {l : List α} {t : α} (hn : l.Nodup) (h : ∀ x, x ∈ l ↔ x = t) : l = [t] := by
  cases l with
  | nil => exact absurd ((h t).mpr rfl) (by simp)
  | cons a r =>
    have e : a = t := (h a).mp List.mem_cons_self
    rw [List.nodup_cons] at hn
    cases r with
    | nil => rw [e]
    | cons b r =>
      have e2 : b = t := (h b).mp (by simp)
      exact absurd (by rw [e, e2]; exact List.mem_cons_self) hn.1
theorem mAll_nodup {p : Int} (n : Nat) (b : List Int → Bool) : ((mAll p n).filter b).Nodup := List.Pairwise.imp (fun {x y} h (e : x = y) => by
  subst e
  exact List.lt_irrefl _ h) (List.Pairwise.filter b (mAll_sorted (p := p) n))
abbrev rwL (v : List Int) : D := .lst (v.map D.int)
theorem rwL_inj (v w : List Int) (h : rwL v = rwL w) : v = w := rw_inj (by show D.tup _ = D.tup _; rw [D.lst.inj h])
theorem rwL_pln (v : List Int) : Pln 1 (rwL v) := Pln.lst (Pln.map fun x _ => Pln.int x 0)
theorem rwL_ok (v : List Int) : okD (rwL v) = true := (rwL_pln v).ok
theorem eqv_rwL (v w : List Int) : PyData.eqv (py (rwL v)) (py (rwL w)) = decide (v = w) := eqv_inj (f := rwL) rwL_inj (cln_lst (cln_map fun x _ => cln_int x)) (cln_lst (cln_map fun x _ => cln_int x)) (rwL_pln v).1
theorem paired_rg {lo hi : Int} {α : Type} : ∀ {xs : List α} {ds : List D}, Paired (fun _ d => ∃ r : Int, lo ≤ r ∧ r < hi ∧ d = .int r) xs ds → ∃ v : List Int, v.length = xs.length ∧ (∀ x ∈ v, lo ≤ x ∧ x < hi) ∧ ds = v.map D.int
  | _, _, .nil => ⟨[], rfl, fun x hx => absurd hx (by simp), rfl⟩
  | _, _, .cons ⟨r, h1, h2, e⟩ t => by
    obtain ⟨v, hv, hb, e2⟩ := paired_rg t
    refine ⟨r :: v, by rw [List.length_cons, List.length_cons, hv], fun x hx => ?_, by rw [e, e2]; rfl⟩
    rcases List.mem_cons.mp hx with e | h
    · rw [e]; exact ⟨h1, h2⟩
    · exact hb x h
/-- if c: (if x: return ..) else: (if y: return ..), and neither is so -/
theorem rs_guards {tt t1 t2 : TT} {s1 s2 u : TS} {b : Bool} {E : Ends} (h : EvT F ks tt b) (h1 : b = true → EvT F ks t1 false) (h2 : b = false → EvT F ks t2 false) (c : Run F ks u E) : Run F ks (tSeq (tIfS tt (tIfS t1 s1 tNext) (tIfS t2 s2 tNext)) u) E :=
  rs_ifE h (fun e => run_if (h1 e) (fun z => absurd z (by decide)) fun _ => run_next c) fun e => run_if (h2 e) (fun z => absurd z (by decide)) fun _ => run_next c
section
variable {p : Int} {n : Nat}
theorem sol_all (hP : PR p) {rows : List (List Int)} {right : List Int} (hR : Vcs p n rows) (hl : rows.length = right.length) {fits : List (List Int)} (hf : fits = (mAll p n).filter fun v => decide ((rows.map fun r => mDot p r v) = right.map fun g => g % p)) :
    (fits = [] → mSolve p n rows right = none) ∧ (fits ≠ [] → ∃ t, mSolve p n rows right = some t ∧ Vc p n t ∧ Fit p rows right t ∧ (∀ k : Nat, (k : Int) ∉ mPiv p n rows → cf t k = 0) ∧ ∀ v, Vc p n v → Fit p rows right v → (∀ k, k < n → (k : Int) ∉ mPiv p n rows → cf v k = 0) → v = t) := by
  have mem : ∀ v, v ∈ fits ↔ Vc p n v ∧ Fit p rows right v := fun v => by rw [hf, List.mem_filter, mem_mAll, decide_eq_true_iff]; exact Iff.rfl
  by_cases c : (n : Int) ∈ mPiv p (n + 1) (mWide p rows right)
  · refine ⟨fun _ => by unfold mSolve; rw [if_pos c], fun hne => ?_⟩
    obtain ⟨v, hv⟩ := List.exists_mem_of_ne_nil _ hne
    exact absurd ((mem v).mp hv).2 (fit_none hP hR hl c ((mem v).mp hv).1)
  · have hs := (solV_spec (right := right) hP hR c).2.1
    have hfit := sol_fit hP hR hl c
    refine ⟨fun e => ?_, fun _ => ⟨_, by unfold mSolve; rw [if_neg c], hs, hfit, fun k hk => sol_free hP hR hl c hk, fun v hv hf h0 => sol_uni hP hR hl c hv hf h0⟩⟩
    have := (mem _).mpr ⟨hs, hfit⟩
    rw [e] at this
    cases this
theorem fit_tot (hp : 0 < p) {rows : List (List Int)} (h : Vcs p n rows) {v w : List Int} (hv : Vc p n v) : Fit p (mTurn n rows) v w ↔ mTot p n rows w rows.length = v := by
  have key : ∀ k, mDot p (mCol rows k) w = cf (mTot p n rows w rows.length) k := fun k => by
    rw [mDot_sm, col_len, cf_tot hp h w k _ (Nat.le_refl _), sm_congr fun j hj => by rw [cf_col hj]]
  unfold Fit mTurn
  constructor
  · intro e
    refine vext0 (tot_vc hp h w _ (Nat.le_refl _)).1 hv.1 fun k hk => ?_
    have := congrArg (fun l => l[k]?) e
    rw [List.map_map, List.getElem?_map, List.getElem?_range hk, List.getElem?_map, List.getElem?_eq_getElem (by rw [hv.1]; exact hk)] at this
    rw [← key k, ← hv.md hp k, cf_lt (by rw [hv.1]; exact hk)]
    exact Option.some.inj this
  · intro e
    refine List.ext_getElem? fun k => ?_
    by_cases hk : k < n
    · rw [List.map_map, List.getElem?_map, List.getElem?_range hk, List.getElem?_map, List.getElem?_eq_getElem (by rw [hv.1]; exact hk)]
      have hk2 : k < v.length := by rw [hv.1]; exact hk
      show some (mDot p (mCol rows k) w) = some (v[k] % p)
      rw [key k, e, ← hv.md hp k, cf_lt (by rw [hv.1]; exact hk)]
    · rw [List.getElem?_eq_none (by simp; omega), List.getElem?_eq_none (by rw [List.length_map, hv.1]; omega)]
/-- independent rows: the multiples are told by the sum -/
theorem ind_uni (hP : PR p) {rows : List (List Int)} (h : Vcs p n rows) (hc : (spanL p n rows).length = p.toNat ^ rows.length) {w t : List Int} (hw : Vc p rows.length w) (ht : Vc p rows.length t) (e : mTot p n rows w rows.length = mTot p n rows t rows.length) : w = t := by
  have hp := hP.pos
  have hT := turn_vcs (n := n) hp h
  have h1 : (mRed p n rows).length = rows.length := pow_inj hP (by rw [← count_red hP h, hc])
  have h2 := ker_len hP hT
  rw [rank_turn hP h, h1] at h2
  have h3 : mKer p rows.length (mTurn n rows) = [] := List.eq_nil_of_length_eq_zero (by omega)
  have hd : InKer p rows.length (mTurn n rows) (mAdd p w (mScl p (-1) t)) := by
    refine ⟨hw.add' hp (ht.scl' hp), fun r hr => ?_⟩
    unfold mTurn at hr
    obtain ⟨k, hk, rfl⟩ := List.mem_map.mp hr
    have key : ∀ w, mDot p (mCol rows k) w = cf (mTot p n rows w rows.length) k := fun w => by
      rw [mDot_sm, col_len, cf_tot hp h w k _ (Nat.le_refl _), sm_congr fun j hj => by rw [cf_col hj]]
    rw [dot_add hp hw ht col_len, key, key, e, show cf (mTot p n rows t rows.length) k + -1 * cf (mTot p n rows t rows.length) k = 0 by omega, Int.zero_emod]
  rw [← ker_in hP hT, h3] at hd
  have nil : ∀ v, In p rows.length [] v → v = zer rows.length := fun v h => by
    cases h with
    | zero => rfl
    | add a _ h => cases h
  have hz := nil _ hd
  refine vext hp hw ht fun k => ?_
  have h5 := congrArg (fun z => cf z k) hz
  rw [cf_zer, cf_add (by rw [scl_len, hw.1, ht.1]), cf_scl, Int.add_emod_emod] at h5
  rw [show cf w k = (cf w k + cf t k * -1) + cf t k by omega, ← Int.emod_add_emod, h5, Int.zero_add]
end
end Dl
set_option Elab.async false
set_option linter.all false
set_option maxHeartbeats 2000000
/-! LinSum: the dimensions of the sum and the common part of two spaces. No program in sight. -/
namespace Dl
open PySem L2
section
variable {p : Int} {n : Nat}
theorem vcs_app {A B : List (List Int)} (hA : Vcs p n A) (hB : Vcs p n B) : Vcs p n (A ++ B) := fun x hx => by
  rcases List.mem_append.mp hx with h | h
  · exact hA x h
  · exact hB x h
theorem in_split (hp : 0 < p) {A B : List (List Int)} (hA : Vcs p n A) (hB : Vcs p n B) {v : List Int} (h : In p n (A ++ B) v) : ∃ u w, In p n A u ∧ In p n B w ∧ v = mAdd p u w := by
  induction h with
  | zero => exact ⟨zer n, zer n, .zero, .zero, (add_zer hp (Vc.zer hp)).symm⟩
  | add a hw hr ih =>
    rename_i x r
    obtain ⟨u, w, h1, h2, e⟩ := ih
    have uv := h1.vc hp hA
    have wv := h2.vc hp hB
    rcases List.mem_append.mp hr with h | h
    · have rv := (hA r h).scl' (a := a) hp
      refine ⟨mAdd p u (mScl p a r), w, .add a h1 h, h2, ?_⟩
      rw [e, ← add_assoc hp uv wv rv, add_comm' hp wv rv, add_assoc hp uv rv wv]
    · have rv := (hB r h).scl' (a := a) hp
      exact ⟨u, mAdd p w (mScl p a r), h1, .add a h2 h, by rw [e, add_assoc hp uv wv rv]⟩
theorem in_app (hP : PR p) {A B C : List (List Int)} (hA : Vcs p n A) (hB : Vcs p n B) (hC : Vcs p n C) (h1 : ∀ v, In p n A v → In p n C v) (h2 : ∀ r ∈ B, In p n C r) {v : List Int} (h : In p n (A ++ B) v) : In p n C v := h.mono hP.pos hC fun r hr => by
  rcases List.mem_append.mp hr with h | h
  · exact h1 r (In.row hP.pos hA hP.two h)
  · exact h2 r h
theorem in_left {A B : List (List Int)} {v : List Int} (h : In p n A v) : In p n (A ++ B) v := h.sub fun x hx => List.mem_append_left _ hx
theorem in_right {A B : List (List Int)} {v : List Int} (h : In p n B v) : In p n (A ++ B) v := h.sub fun x hx => List.mem_append_right _ hx
/-- spaces that meet in 0 alone -/
theorem rank_sum (hP : PR p) {A B : List (List Int)} (hA : Vcs p n A) (hB : Vcs p n B) (h0 : ∀ v, In p n A v → In p n B v → v = zer n) : (mRed p n (A ++ B)).length = (mRed p n A).length + (mRed p n B).length := by
  have hp := hP.pos
  have hF := (red_form hP hB).1
  have hV := red_vcs hP hB
  have hI := red_in hP hB
  have same : ∀ v, In p n (A ++ mRed p n B) v ↔ In p n (A ++ B) v := fun v =>
    ⟨fun h => in_app hP hA hV (vcs_app hA hB) (fun v h => in_left h) (fun r hr => in_right ((hI r).mp (In.row hp hV hP.two hr))) h,
     fun h => in_app hP hA hB (vcs_app hA hV) (fun v h => in_left h) (fun r hr => in_right ((hI r).mpr (In.row hp hB hP.two hr))) h⟩
  have key : ∀ i, i ≤ (mRed p n B).length → (spanL p n (A ++ (mRed p n B).take i)).length = (spanL p n A).length * p.toNat ^ i := by
    intro i
    induction i with
    | zero => intro _; rw [List.take_zero, List.append_nil, Nat.pow_zero, Nat.mul_one]
    | succ i ih =>
      intro hi
      have hT : Vcs p n ((mRed p n B).take i) := fun x hx => hV x (List.mem_of_mem_take hx)
      have hr : (mRed p n B)[i] ∈ mRed p n B := List.getElem_mem (by omega)
      have hg : (mRed p n B).getD i [] = (mRed p n B)[i] := by
        rw [List.getD_eq_getElem?_getD, List.getElem?_eq_getElem (by omega : i < (mRed p n B).length)]
        rfl
      have hc : ∀ r ∈ (mRed p n B).take i, cf r (mPv (mRed p n B)[i]) = 0 := by
        have := (hF.off1 (i := i) (by omega)).1
        rwa [hg] at this
      have c : (mRed p n B)[i] ∉ spanL p n (A ++ (mRed p n B).take i) := by
        rw [mem_spanL hP (vcs_app hA hT)]
        intro hin
        obtain ⟨u, w, h1, h2, e⟩ := in_split hp hA hT hin
        have uv := h1.vc hp hA
        have wv := h2.vc hp hT
        have hwB : In p n (mRed p n B) w := h2.sub fun x hx => List.mem_of_mem_take hx
        have eu : u = mAdd p (mRed p n B)[i] (mScl p (-1) w) := by
          rw [e, ← add_assoc hp uv wv (wv.scl' hp)]
          have hz : mAdd p w (mScl p (-1) w) = zer n := by
            refine vext hp (wv.add' hp (wv.scl' hp)) (Vc.zer hp) fun k => ?_
            rw [cf_add (by rw [scl_len]), cf_scl, cf_zer, Int.emod_emod, Int.add_emod_emod]
            congr 1
            omega
          rw [hz, add_zer hp uv]
        have hu : u = zer n := by
          refine h0 u h1 ((hI u).mp ?_)
          rw [eu]
          exact (In.row hp hV hP.two hr).sum hp hV (hwB.scl hp hV)
        have h3 := one_piv hF hr
        rw [e, hu, zer_add hp wv] at h3
        have h4 := in_at0 hp hT hc h2
        rw [e, hu, zer_add hp wv] at h4
        rw [h4] at h3
        cases h3
      rw [List.take_add_one, List.getElem?_eq_getElem (by omega : i < (mRed p n B).length), Option.toList_some, ← List.append_assoc, spanL_snoc]
      unfold spStep
      rw [if_neg c, flatMap_len _ p.toNat fun w => by rw [List.length_map, List.length_range], ih (by omega), Nat.pow_succ, Nat.mul_assoc]
  have k1 := key (mRed p n B).length (Nat.le_refl _)
  rw [List.take_length, count_red hP hA, count_red hP (vcs_app hA hV), ← Nat.pow_add] at k1
  rw [← (red_uni hP (vcs_app hA hV) (vcs_app hA hB) same).1]
  exact pow_inj hP k1
/-- the dimensions of the sum and of the common part -/
theorem rank_meet (hP : PR p) {A B C : List (List Int)} (hA : Vcs p n A) (hB : Vcs p n B) (hC : Vcs p n C) (h : ∀ v, In p n C v ↔ In p n A v ∧ In p n B v) : (mRed p n (A ++ B)).length + (mRed p n C).length = (mRed p n A).length + (mRed p n B).length := by
  have hp := hP.pos
  have hF := (red_form hP hC).1
  have hV := red_vcs hP hC
  have hI := red_in hP hC
  have h2v : Vcs p n (B.map (mRest p (mRed p n C))) := fun x hx => by
    obtain ⟨b, hb, rfl⟩ := List.mem_map.mp hx
    exact rest_vc hp hV (hB b hb)
  have dif : ∀ b ∈ B, ∃ u, In p n C u ∧ mRest p (mRed p n C) b = mAdd p b u ∧ b = mAdd p (mRest p (mRed p n C) b) (mScl p (-1) u) := fun b hb => by
    obtain ⟨u, hu, e⟩ := rest_diff hP hV (l := mRed p n C) (fun r h => h) (hB b hb)
    have uv := hu.vc hp hV
    refine ⟨u, (hI u).mp hu, e, ?_⟩
    rw [e, ← add_assoc hp (hB b hb) uv (uv.scl' hp)]
    have hz : mAdd p u (mScl p (-1) u) = zer n := by
      refine vext hp (uv.add' hp (uv.scl' hp)) (Vc.zer hp) fun k => ?_
      rw [cf_add (by rw [scl_len]), cf_scl, cf_zer, Int.emod_emod, Int.add_emod_emod]
      congr 1
      omega
    rw [hz, add_zer hp (hB b hb)]
  have in2 : ∀ r ∈ B.map (mRest p (mRed p n C)), In p n B r := fun r hr => by
    obtain ⟨b, hb, rfl⟩ := List.mem_map.mp hr
    obtain ⟨u, hu, e, _⟩ := dif b hb
    rw [e]
    exact (In.row hp hB hP.two hb).sum hp hB ((h u).mp hu).2
  have zr : ∀ v, In p n (mRed p n C) v → In p n (B.map (mRest p (mRed p n C))) v → v = zer n := fun v h1 h3 => in_zero hp hF hV h1 fun r hr => in_at0 hp h2v (fun x hx => by
    obtain ⟨b, hb, rfl⟩ := List.mem_map.mp hx
    obtain ⟨i, hi, e⟩ := hF.pvs hr
    rw [← e]
    exact rest_piv hp hF hV (hB b hb) hi) h3
  have s1 : ∀ v, In p n (mRed p n C ++ B.map (mRest p (mRed p n C))) v ↔ In p n B v := fun v =>
    ⟨fun k => in_app hP hV h2v hB (fun v k => ((h v).mp ((hI v).mp k)).2) in2 k, fun k => k.mono hp (vcs_app hV h2v) fun b hb => by
      obtain ⟨u, hu, _, e⟩ := dif b hb
      rw [e]
      exact (in_right (In.row hp h2v hP.two (List.mem_map.mpr ⟨b, hb, rfl⟩))).sum hp (vcs_app hV h2v) ((in_left ((hI u).mpr hu)).scl hp (vcs_app hV h2v))⟩
  have s2 : ∀ v, In p n (A ++ B.map (mRest p (mRed p n C))) v ↔ In p n (A ++ B) v := fun v =>
    ⟨fun k => in_app hP hA h2v (vcs_app hA hB) (fun v k => in_left k) (fun r hr => in_right (in2 r hr)) k, fun k => in_app hP hA hB (vcs_app hA h2v) (fun v k => in_left k) (fun b hb => by
      obtain ⟨u, hu, _, e⟩ := dif b hb
      rw [e]
      exact (in_right (In.row hp h2v hP.two (List.mem_map.mpr ⟨b, hb, rfl⟩))).sum hp (vcs_app hA h2v) ((in_left ((h u).mp hu).1).scl hp (vcs_app hA h2v))) k⟩
  have r1 := rank_sum hP hV h2v zr
  have r2 := rank_sum hP hA h2v fun v h1 h3 => zr v ((hI v).mpr ((h v).mpr ⟨h1, h3.mono hp hB in2⟩)) h3
  rw [(red_uni hP (vcs_app hV h2v) hB s1).1, red_red hP hC] at r1
  rw [(red_uni hP (vcs_app hA h2v) (vcs_app hA hB) s2).1] at r2
  omega
/-- the common part by kernels -/
theorem part_in (hP : PR p) {A B : List (List Int)} (hA : Vcs p n A) (hB : Vcs p n B) (v : List Int) : In p n (mKer p n (mKer p n A ++ mKer p n B)) v ↔ In p n A v ∧ In p n B v := by
  have ka := ker_vcs hP hA
  have kb := ker_vcs hP hB
  rw [ker_in hP (vcs_app ka kb)]
  have da : ∀ v, InKer p n (mKer p n A) v ↔ In p n A v := fun v => by rw [← ker_in hP ka, ker_ker hP hA, red_in hP hA]
  have db : ∀ v, InKer p n (mKer p n B) v ↔ In p n B v := fun v => by rw [← ker_in hP kb, ker_ker hP hB, red_in hP hB]
  rw [← da, ← db]
  exact ⟨fun h => ⟨⟨h.1, fun r hr => h.2 r (List.mem_append_left _ hr)⟩, ⟨h.1, fun r hr => h.2 r (List.mem_append_right _ hr)⟩⟩, fun h => ⟨h.1.1, fun r hr => by
    rcases List.mem_append.mp hr with k | k
    · exact h.1.2 r k
    · exact h.2.2 r k⟩⟩
end
end Dl
set_option Elab.async false
set_option linter.all false
set_option maxHeartbeats 2000000
/-! DlIns: instances as data: fields, methods, making one. -/
namespace Dl
open PySem PySem.Spec PyProof.Rows L2
variable {F : Fm} {ks : List Kd} {E : Ends}
theorem ev_fld {te : TE} {C : Addr} {gs : List (Str × D)} {f : Str} {d : D} (h : Ev F ks te (.ins C gs)) (hc : Cls F.K C) (hn : NoAttr F.K C f) (hl : gs.lookup f = some d) : Ev F ks (tFld F.K te f) d := fun M σ H o Q q => h M σ H o _ fun v d0 H1 o1 s1 a1 e1 => by
  subst e1
  cases a1 with
  | ins h1 h2 h3 =>
    obtain ⟨u, g1, g2⟩ := h3.lookup hl
    exact ⟨_, C, _, _, u, rfl, hid_same _ _ h1, hc, hn, g1, q u d H1 o1 s1 g2 rfl⟩
theorem ev_meth {S : List D → (D → Prop) → Prop} {Ex : XK} {te : TE} {ta : TA} {C : Addr} {m : Str} {gs : List (Str × D)} {es : List D} {T : D → Prop} (h : Ev F ks te (.ins C gs)) (hl : gs.lookup m = none) (ha : EvA F ks ta es) (hS : S (.ins C gs :: es) T) : EvR F ks (tMeth C m (spP S F.K) [] Ex te ta) T := fun M σ H o Q q => h M σ H o _ fun v d0 H1 o1 s1 a1 e1 => by
  subst e1
  cases a1 with
  | ins h1 h2 h3 =>
    refine ⟨_, _, _, rfl, hid_same _ _ h1, h3.none hl, ha M σ H1 o1 _ fun vs ds H2 o2 s2 a2 e2 => ?_⟩
    subst e2
    have mn := o1.hidStep s2
    have a0 : At F.K (hid M H2) (.ref _) (.ins C gs) := At.mono mn (.ins h1 h2 h3)
    refine ⟨M, .ins C gs :: ds, T, by rw [List.append_nil]; exact .cons a0 a2, o2.live, hS, fun d v H3 t3 e3 a3 => ?_⟩
    exact q v d H3 (o2.same e3) (s1.trans (s2.trans (Step.of e3))) a3 t3
/-- __init__: it fills a new instance -/
def spI (C : Addr) (S : List D → List (Str × D) → Prop) (K : PySem.W.Frag) : Sp := fun vs H Q _ => ∃ M x dx us ds gs, vs = .ref x :: us ∧ H x = some (.ins C dx []) ∧ H dx = some (.own x) ∧ x ∈ M ∧ dx ∈ M ∧ Ats K (hid M H) us ds ∧ (∀ a ∈ M, ∃ o, H a = some o) ∧ S ds gs ∧
  ∀ H' fs, (∀ b o, H b = some o → b ≠ x → H' b = some o) → H' x = some (.ins C dx fs) → AtF K (hid M H') fs gs → Q .non H'
theorem ev_make {S : List D → List (Str × D) → Prop} {Ex : XK} {ta : TA} {C : Addr} {gs : List (Str × D)} {es : List D} (ha : EvA F ks ta es) (hS : S es gs) : Ev F ks (tMake C (spI C S F.K) [] Ex ta) (.ins C gs) := fun M σ H o Q q => ha M σ H o _ fun vs ds H1 o1 s1 a1 e1 => by
  subst e1
  intro x dx nx ndx hne
  have nx' : (upd H1 dx (.own x)) x = none := by rw [upd_ne (fun e => hne e.symm)]; exact nx
  have hh : hid (x :: dx :: M) (upd (upd H1 dx (.own x)) x (.ins C dx [])) = hid M H1 := by rw [hid_new nx', hid_new ndx]
  have hdx : (upd (upd H1 dx (.own x)) x (.ins C dx [])) dx = some (.own x) := by rw [upd_ne hne]; exact upd_same
  refine ⟨x :: dx :: M, x, dx, vs, ds, gs, by rw [List.append_nil], upd_same, hdx, List.mem_cons_self, List.mem_cons_of_mem _ List.mem_cons_self, by rw [hh]; exact a1, fun a hm => ?_, hS, fun H2 fs k hx hf => ⟨rfl, ?_⟩⟩
  · rcases List.mem_cons.mp hm with e | hm
    · rw [e]; exact ⟨_, upd_same⟩
    · rcases List.mem_cons.mp hm with e | hm
      · rw [e]; exact ⟨_, hdx⟩
      · obtain ⟨u, hu⟩ := o1.live a hm
        have n1 : a ≠ x := fun e => by rw [e, nx] at hu; cases hu
        have n2 : a ≠ dx := fun e => by rw [e, ndx] at hu; cases hu
        exact ⟨u, by rw [upd_ne n1, upd_ne n2]; exact hu⟩
  · have sm : Same H1 H2 := fun b u hu => by
      have n1 : b ≠ x := fun e => by rw [e, nx] at hu; cases hu
      have n2 : b ≠ dx := fun e => by rw [e, ndx] at hu; cases hu
      exact k b u (by rw [upd_ne n1, upd_ne n2]; exact hu) n1
    refine q (.ref x) _ H2 (o1.same sm) (s1.trans (Step.of sm)) ?_ rfl
    refine .ins (dx := dx) (fs := fs) (by rw [hid_out (o1.fresh nx)]; exact hx) (by rw [hid_out (o1.fresh ndx)]; exact k dx _ hdx hne) ?_
    exact AtF.mono (hid_sub fun a ha => List.mem_cons_of_mem _ (List.mem_cons_of_mem _ ha)) hf
/-- the frame behind a field's store -/
theorem Ok.fld {M : List Addr} {σ : Sg} {H : Hp} (o : Ok F ks M σ H) {x : Addr} {u0 u : HO} (hm : x ∈ F.M0) (hb : F.B x = some u0) : Ok { F with B := upd F.B x u, G := hid M H } ks M σ (upd H x u) := by
  have hM : x ∈ M := o.sup x hm
  have hh : hid M (upd H x u) = hid M H := hid_upd hM
  have nx : ∀ {p : Addr}, F.B p = none → p ≠ x := fun e z => by rw [z, hb] at e; cases e
  have has : ∀ {y : Option (Option V)} {p : Addr} {φ : List D → Prop}, Has F M H y p φ → Has { F with B := upd F.B x u, G := hid M H } M (upd H x u) y p φ := fun ⟨h1, h2, h3, vs, ds, h4, h5, h6⟩ =>
    ⟨h1, h2, by show upd F.B x u _ = none; rw [upd_ne (nx h3)]; exact h3, vs, ds, by rw [upd_ne (nx h3)]; exact h4, by show Ats F.K (hid M (upd H x u)) vs ds; rw [hh]; exact h5, h6⟩
  have hN : ∀ (i : Nat) (χ : List (List D) → Prop), ks[i]? = some (.nst χ) → ∃ p qs, Nes { F with B := upd F.B x u, G := hid M H } M (upd H x u) σ[i]? p qs χ ∧ ∀ a ∈ p :: qs, ¬ OwnA ks σ a := fun i χ e => by
    obtain ⟨p, qs, h1, h2⟩ := o.nst i χ e
    have ne : ∀ a ∈ p :: qs, a ≠ x := fun a ha z => (h1.mem a ha).2.1 (by rw [z]; exact hm)
    exact ⟨p, qs, h1.to rfl rfl (fun a ha => ⟨(h1.mem a ha).1, (h1.mem a ha).2.1, by show upd F.B x u a = none; rw [upd_ne (ne a ha)]; exact (h1.mem a ha).2.2⟩) (fun a ha v g => by rw [upd_ne (ne a ha)]; exact g) (by rw [hh]; exact Same.refl _) (fun _ r => r), h2⟩
  refine ⟨o.len, fun i d e => ?_, fun i φ e => ?_, fun i φ e => ?_, o.inj, hN, o.one, fun b v e => ?_, ?_, o.sup, fun a ha => ?_⟩
  · obtain ⟨v, h1, h2⟩ := o.dat i d e
    exact ⟨v, h1, by show At F.K (hid M (upd H x u)) v d; rw [hh]; exact h2⟩
  · obtain ⟨p, h1, h2⟩ := o.own i φ e
    exact ⟨p, h1, has h2⟩
  · obtain ⟨p, h1, h2⟩ := o.bor i φ e
    exact ⟨p, h1, has h2⟩
  · by_cases c : b = x
    · subst c
      have e' : upd F.B b u b = some v := e
      rw [upd_same] at e' ⊢
      exact e'
    · have e' : upd F.B x u b = some v := e
      rw [upd_ne c] at e' ⊢
      exact o.base b v e'
  · show Same (hid M H) (hid M (upd H x u))
    rw [hh]
    exact Same.refl _
  · by_cases c : a = x
    · exact ⟨u, by rw [c]; exact upd_same⟩
    · obtain ⟨w, hw⟩ := o.live a ha
      exact ⟨w, by rw [upd_ne c]; exact hw⟩
theorem run_fld {x C dx : Addr} {te : TE} {f : Str} {d : D} {fs : List (Str × V)} (i : Nat) (hi : ks[i]? = some (.dat (.raw (.ref x)))) (hc : Cls F.K C) (hn : NoAttr F.K C f) (hm : x ∈ F.M0) (hb : F.B x = some (.ins C dx fs)) (hl : fs.length < 1000) (h : Ev F ks te d)
    (c : ∀ G v, Same F.G G → At F.K G v d → Cont { F with B := upd F.B x (.ins C dx (putF f v fs)), G := G } ks E.nx) : Run F ks (sFld F.K (tVar i) te f) E := fun M σ H o => h M σ H o _ fun v d1 H1 o1 s1 a1 e1 => by
  subst e1
  refine ev_var hi M σ H1 o1 _ fun y d2 H2 o2 s2 a2 e2 => ?_
  subst e2
  cases a2
  refine ⟨x, C, dx, fs, rfl, o2.base _ _ hb, hc, hn, hl, ?_⟩
  exact c (hid M H2) v o2.vis (At.mono (o1.hidStep s2) a1) M σ _ (o2.fld hm hb)
theorem rs_fld {x C dx : Addr} {te : TE} {f : Str} {d : D} {fs : List (Str × V)} {u : TS} (i : Nat) (hi : ks[i]? = some (.dat (.raw (.ref x)))) (hc : Cls F.K C) (hn : NoAttr F.K C f) (hm : x ∈ F.M0) (hb : F.B x = some (.ins C dx fs)) (hl : fs.length < 1000) (h : Ev F ks te d)
    (c : ∀ G v, Same F.G G → At F.K G v d → Run { F with B := upd F.B x (.ins C dx (putF f v fs)), G := G } ks u E) : Run F ks (tSeq (sFld F.K (tVar i) te f) u) E := run_seq (run_fld i hi hc hn hm hb hl h fun G v s a => c G v s a)
theorem cont_endI {H0 : Hp} {M0 : List Addr} {x C dx : Addr} {fs : List (Str × V)} {gs : List (Str × D)} {Q : VK} {N : Sg → Hp → Prop} (q : ∀ H' fs, (∀ b o, H0 b = some o → b ≠ x → H' b = some o) → H' x = some (.ins C dx fs) → AtF F.K (hid M0 H') fs gs → Q .non H') (hN : N = fun _ H' => Q .non H') (hB : ∀ b o, H0 b = some o → b ≠ x → F.B b = some o) (hM : F.M0 = M0)
    (hx : F.B x = some (.ins C dx fs)) (hf : AtF F.K F.G fs gs) : Cont F ks N := fun M σ H o => by
  subst hN
  refine q H fs (fun b u e n => o.base b u (hB b u e n)) (o.base _ _ hx) (AtF.mono (fun a u e => ?_) hf)
  exact hid_sub (fun a ha => o.sup a (by rw [hM]; exact ha)) a u (o.vis a u e)
end Dl
set_option Elab.async false
set_option linter.all false
set_option maxRecDepth 100000
set_option maxHeartbeats 2000000
/-! GenPut: a run that cannot wake the generators that sleep does not know how they would go on. -/
namespace GenW
open PySem
open Sem (wp)
/-- suspended, and nothing can wake it -/
def Stuck (x : GenState) : Prop := ∃ k l c p fs cl, x = .suspended k l c p fs cl ∧ ∀ r, k r = .unsupported ""
/-- the states at D instead -/
def put (D : Nat → Option GenState) (s : Shared) : Shared := { s with gens := s.gens.mapIdx fun i x => (D i).getD x }
def NoGen (fs : List Frame) : Prop := splitAtGen fs = none
def Clean (s : Shared) : Prop := ∀ (i : Nat) k l c p fs cl, s.gens[i]? = some (.suspended k l c p fs cl) → NoGen fs
def Held (D : Nat → Option GenState) (s : Shared) : Prop := ∀ i y, D i = some y → ∃ x, s.gens[i]? = some x ∧ Stuck x ∧ x.seen = y.seen
section
variable {D : Nat → Option GenState} {s : Shared} {i j : Nat} {x y : GenState}
theorem put_none (h : D i = none) : (put D s).gens[i]? = s.gens[i]? := by
  show (s.gens.mapIdx fun i x => (D i).getD x)[i]? = _
  rw [Array.getElem?_mapIdx, h]
  cases s.gens[i]? <;> rfl
theorem put_some (hs : Held D s) (h : D i = some y) : (put D s).gens[i]? = some y := by
  obtain ⟨x, e, _⟩ := hs i y h
  show (s.gens.mapIdx fun i x => (D i).getD x)[i]? = _
  rw [Array.getElem?_mapIdx, h, e]
  rfl
theorem put_seen (hs : Held D s) (h : s.gens[i]? = some x) : ∃ y, (put D s).gens[i]? = some y ∧ y.seen = x.seen := by
  cases e : D i with
  | none => exact ⟨x, (put_none e).trans h, rfl⟩
  | some y =>
    obtain ⟨x', e1, _, e2⟩ := hs i y e
    rw [h] at e1; cases e1
    exact ⟨y, put_some hs e, e2.symm⟩
theorem put_size : (put D s).gens.size = s.gens.size := Array.size_mapIdx
theorem put_set (h : D j = none) : put D (s.setGen j y) = (put D s).setGen j y := by
  show ({ s with gens := (s.gens.setIfInBounds j y).mapIdx fun i x => (D i).getD x } : Shared) = { s with gens := (s.gens.mapIdx fun i x => (D i).getD x).setIfInBounds j y }
  congr 1
  apply Array.ext_getElem?
  intro i
  by_cases e : i = j
  · subst e
    rw [Array.getElem?_mapIdx]
    by_cases q : i < s.gens.size
    · simp [q, h]
    · simp [q]
  · rw [Array.getElem?_mapIdx, Array.getElem?_setIfInBounds_ne (Ne.symm e), Array.getElem?_setIfInBounds_ne (Ne.symm e), Array.getElem?_mapIdx]
theorem put_push (h : D s.gens.size = none) : put D { s with gens := s.gens.push y } = { put D s with gens := (put D s).gens.push y } := by
  show ({ s with gens := (s.gens.push y).mapIdx fun i x => (D i).getD x } : Shared) = { s with gens := (s.gens.mapIdx fun i x => (D i).getD x).push y }
  congr 1
  rw [Array.mapIdx_push, h]
  rfl
theorem held_out (hs : Held D s) (h : s.gens[i]? = none) : D i = none := by
  cases e : D i with
  | none => rfl
  | some y =>
    obtain ⟨x, e1, _⟩ := hs i y e
    rw [h] at e1; cases e1
theorem held_not (hs : Held D s) (h : s.gens[i]? = some x) (hn : ¬ Stuck x) : D i = none := by
  cases e : D i with
  | none => rfl
  | some y =>
    obtain ⟨x', e1, h2, _⟩ := hs i y e
    rw [h] at e1; cases e1
    exact absurd h2 hn
theorem held_set (hs : Held D s) (h : D j = none) : Held D (s.setGen j y) := fun i z e => by
  obtain ⟨x, e1, e2⟩ := hs i z e
  have : i ≠ j := fun q => by rw [q, h] at e; cases e
  refine ⟨x, ?_, e2⟩
  show (s.gens.setIfInBounds j y)[i]? = _
  rw [Array.getElem?_setIfInBounds_ne (Ne.symm this)]
  exact e1
theorem clean_set (hs : Clean s) (h : ∀ k l c p fs cl, y = .suspended k l c p fs cl → NoGen fs) : Clean (s.setGen j y) := fun i k l c p fs cl e => by
  have e : (s.gens.setIfInBounds j y)[i]? = _ := e
  by_cases q : i = j
  · subst q
    rw [Array.getElem?_setIfInBounds] at e
    simp at e
    exact h k l c p fs cl e.2
  · rw [Array.getElem?_setIfInBounds_ne (Ne.symm q)] at e
    exact hs i k l c p fs cl e
end
/-- frames of an end -/
def CleanE : End → Prop
  | .ret _ => True
  | .susp _ _ _ _ _ _ fs => NoGen fs
theorem cleanE_gen {e : End} (h : CleanE e) : ∀ k l c p fs cl, e.genState = .suspended k l c p fs cl → NoGen fs := fun k l c p fs cl q => by
  cases e with
  | ret r => cases q
  | susp v g l k c p fs => cases q; exact h
theorem noGen_nil : NoGen [] := rfl
theorem noGen_cons {k h g l c p kp} {fs : List Frame} (q : NoGen fs) : NoGen (.ret k h g l c p kp :: fs) := by
  show (splitAtGen fs).map _ = none
  rw [show splitAtGen fs = none from q]; rfl
theorem noGen_tail {F : Frame} {fs : List Frame} (q : NoGen (F :: fs)) : NoGen fs := by
  cases F with
  | gen g k l c p => cases q
  | ret k h g l c p kp =>
    have q : (splitAtGen fs).map _ = none := q
    cases e : splitAtGen fs with
    | none => exact e
    | some z => rw [e] at q; cases q
theorem noGen_append {a b : List Frame} (ha : NoGen a) (hb : NoGen b) : NoGen (a ++ b) := by
  induction a with
  | nil => exact hb
  | cons F a ih =>
    cases F with
    | gen g k l c p => cases ha
    | ret k h g l c p kp => exact noGen_cons (ih (noGen_tail ha))
theorem not_unsup {M : Model} {Γ : Ctx} {p : Pos} {t : Sem PySem.Fin} {fs : List Frame} {s s' : Shared} {e : End} (h : Runs M Γ p t fs s e s') : t ≠ .unsupported "" := by
  induction h <;> intro e <;> first | (cases e; done) | (rename_i ih _; exact ih e) | (rename_i ih; exact ih e) | skip
theorem runs_put {M : Model} {D : Nat → Option GenState} {Γ : Ctx} {p : Pos} {t : Sem PySem.Fin} {fs : List Frame} {s s' : Shared} {e : End} (h : Runs M Γ p t fs s e s') :
    NoGen fs → Clean s → Held D s → CleanE e ∧ Clean s' ∧ Held D s' ∧ Runs M Γ p t fs (put D s) e (put D s') := by
  induction h with
  | done => intro f c d; exact ⟨trivial, c, d, .done⟩
  | raise => intro f c d; exact ⟨trivial, c, d, .raise⟩
  | again hq _ ih => intro f c d; obtain ⟨a1, a2, a3, a4⟩ := ih f c d; exact ⟨a1, a2, a3, .again hq a4⟩
  | rule _ ih => intro f c d; obtain ⟨a1, a2, a3, a4⟩ := ih f c d; exact ⟨a1, a2, a3, .rule a4⟩
  | «at» _ ih => intro f c d; obtain ⟨a1, a2, a3, a4⟩ := ih f c d; exact ⟨a1, a2, a3, .at a4⟩
  | load ho _ ih => intro f c d; obtain ⟨a1, a2, a3, a4⟩ := ih f c d; exact ⟨a1, a2, a3, .load ho a4⟩
  | update ho _ ih => intro f c d; obtain ⟨a1, a2, a3, a4⟩ := ih f c d; exact ⟨a1, a2, a3, .update ho a4⟩
  | loadIfAlive _ ih => intro f c d; obtain ⟨a1, a2, a3, a4⟩ := ih f c d; exact ⟨a1, a2, a3, .loadIfAlive a4⟩
  | point _ ih => intro f c d; obtain ⟨a1, a2, a3, a4⟩ := ih f c d; exact ⟨a1, a2, a3, .point a4⟩
  | alloc _ ih => intro f c d; obtain ⟨a1, a2, a3, a4⟩ := ih f c d; exact ⟨a1, a2, a3, .alloc a4⟩
  | fresh _ ih => intro f c d; obtain ⟨a1, a2, a3, a4⟩ := ih f c d; exact ⟨a1, a2, a3, .fresh a4⟩
  | ask _ ih => intro f c d; obtain ⟨a1, a2, a3, a4⟩ := ih f c d; exact ⟨a1, a2, a3, .ask a4⟩
  | choose hn _ ih => intro f c d; obtain ⟨a1, a2, a3, a4⟩ := ih f c d; exact ⟨a1, a2, a3, .choose hn a4⟩
  | os _ ih => intro f c d; obtain ⟨a1, a2, a3, a4⟩ := ih f c d; exact ⟨a1, a2, a3, .os a4⟩
  | handled _ ih => intro f c d; obtain ⟨a1, a2, a3, a4⟩ := ih f c d; exact ⟨a1, a2, a3, .handled a4⟩
  | genState hj _ ih =>
    intro f c d
    obtain ⟨a1, a2, a3, a4⟩ := ih f c d
    obtain ⟨y, hy, es⟩ := put_seen d hj
    exact ⟨a1, a2, a3, .genState hy (by rw [es]; exact a4)⟩
  | stack _ ih => intro f c d; obtain ⟨a1, a2, a3, a4⟩ := ih f c d; exact ⟨a1, a2, a3, .stack a4⟩
  | thread _ ih => intro f c d; obtain ⟨a1, a2, a3, a4⟩ := ih f c d; exact ⟨a1, a2, a3, .thread a4⟩
  | newGen _ ih =>
    intro f c d
    have out := held_out d (Array.getElem?_size)
    obtain ⟨a1, a2, a3, a4⟩ := ih f (fun i k l c0 p0 fs cl e => by
      have e : (_ : Array GenState)[i]? = _ := e
      rw [Array.getElem?_push] at e
      split at e
      · cases e
      · exact c i k l c0 p0 fs cl e) (fun i y e => by
      obtain ⟨x, e1, e2⟩ := d i y e
      refine ⟨x, ?_, e2⟩
      have hl := (Array.getElem?_eq_some_iff.mp e1).1
      show (Array.push _ _)[i]? = _
      rw [Array.getElem?_push, if_neg (by omega)]
      exact e1)
    refine ⟨a1, a2, a3, .newGen ?_⟩
    rw [← put_push out, put_size]
    exact a4
  | call _ _ ih1 ih2 =>
    intro f c d
    obtain ⟨_, b2, b3, b4⟩ := ih1 noGen_nil c d
    obtain ⟨a1, a2, a3, a4⟩ := ih2 f b2 b3
    exact ⟨a1, a2, a3, .call b4 a4⟩
  | callSusp _ ih =>
    intro f c d
    obtain ⟨b1, b2, b3, b4⟩ := ih noGen_nil c d
    exact ⟨noGen_append b1 (noGen_cons noGen_nil), b2, b3, .callSusp b4⟩
  | yield => intro f c d; exact ⟨noGen_nil, c, d, .yield⟩
  | resumeFresh hj _ hq _ ih1 ih2 =>
    intro f c d
    have e := held_not d hj fun ⟨_, _, _, _, _, _, z, _⟩ => by cases z
    obtain ⟨b1, b2, b3, b4⟩ := ih1 noGen_nil (clean_set c fun _ _ _ _ _ _ z => by cases z) (held_set d e)
    obtain ⟨a1, a2, a3, a4⟩ := ih2 f (clean_set b2 (cleanE_gen b1)) (held_set b3 e)
    rw [put_set e] at a4 b4
    exact ⟨a1, a2, a3, .resumeFresh ((put_none e).trans hj) b4 hq a4⟩
  | resumeSuspended hj h1 hq _ ih1 ih2 =>
    intro f c d
    have e := held_not d hj fun ⟨_, _, _, _, _, _, z, hk⟩ => by
      cases z
      exact not_unsup h1 (hk _)
    obtain ⟨b1, b2, b3, b4⟩ := ih1 (c _ _ _ _ _ _ _ hj) (clean_set c fun _ _ _ _ _ _ z => by cases z) (held_set d e)
    obtain ⟨a1, a2, a3, a4⟩ := ih2 f (clean_set b2 (cleanE_gen b1)) (held_set b3 e)
    rw [put_set e] at a4 b4
    exact ⟨a1, a2, a3, .resumeSuspended ((put_none e).trans hj) b4 hq a4⟩
  | resumeJustStarted hj hv _ ih =>
    intro f c d
    have e := held_not d hj fun ⟨_, _, _, _, _, _, z, _⟩ => by cases z
    obtain ⟨a1, a2, a3, a4⟩ := ih f c d
    exact ⟨a1, a2, a3, .resumeJustStarted ((put_none e).trans hj) hv a4⟩
  | resumeThrowFresh hj _ ih =>
    intro f c d
    have e := held_not d hj fun ⟨_, _, _, _, _, _, z, _⟩ => by cases z
    obtain ⟨a1, a2, a3, a4⟩ := ih f (clean_set c fun _ _ _ _ _ _ z => by cases z) (held_set d e)
    rw [put_set e] at a4
    exact ⟨a1, a2, a3, .resumeThrowFresh ((put_none e).trans hj) a4⟩
  | resumeRunning hj _ ih =>
    intro f c d
    have e := held_not d hj fun ⟨_, _, _, _, _, _, z, _⟩ => by cases z
    obtain ⟨a1, a2, a3, a4⟩ := ih f c d
    exact ⟨a1, a2, a3, .resumeRunning ((put_none e).trans hj) a4⟩
  | resumeFinished hj _ ih =>
    intro f c d
    have e := held_not d hj fun ⟨_, _, _, _, _, _, z, _⟩ => by cases z
    obtain ⟨a1, a2, a3, a4⟩ := ih f c d
    exact ⟨a1, a2, a3, .resumeFinished ((put_none e).trans hj) a4⟩
  | segRet _ _ ih1 ih2 =>
    intro f c d
    obtain ⟨_, b2, b3, b4⟩ := ih1 noGen_nil c d
    obtain ⟨a1, a2, a3, a4⟩ := ih2 (noGen_tail f) b2 b3
    exact ⟨a1, a2, a3, .segRet b4 a4⟩
  | segGen _ _ _ _ => intro f; cases f
  | segSuspOut hn _ ih =>
    intro f c d
    obtain ⟨b1, b2, b3, b4⟩ := ih noGen_nil c d
    exact ⟨noGen_append b1 f, b2, b3, .segSuspOut hn b4⟩
  | segSuspGen hn _ _ _ _ _ =>
    intro f
    rw [show splitAtGen _ = none from f] at hn
    cases hn
theorem returns_put {M : Model} {D : Nat → Option GenState} {Γ : Ctx} {p : Pos} {s s' : Shared} {r : Result} (h : Returns M Γ p s r s') (c : Clean s) (d : Held D s) : Clean s' ∧ Held D s' ∧ Returns M Γ p (put D s) r (put D s') :=
  let ⟨_, a2, a3, a4⟩ := runs_put h noGen_nil c d
  ⟨a2, a3, a4⟩
theorem wakes_put {M : Model} {D : Nat → Option GenState} {Γ : Ctx} {p : Pos} {g : Nat} {r : Resume} {s s' : Shared} {res : GenResult} (h : Wakes M Γ p g r s res s') (c : Clean s) (d : Held D s) : Clean s' ∧ Held D s' ∧ Wakes M Γ p g r (put D s) res (put D s') := by
  unfold Wakes at h
  split at h
  · exact h.elim
  · rename_i c0 hj
    have e := held_not d hj fun ⟨_, _, _, _, _, _, z, _⟩ => by cases z
    have hj2 := (put_none (D := D) e).trans hj
    split at h
    · obtain ⟨e₁, s₁, hr, hq, e2, rfl⟩ := h
      obtain ⟨b1, b2, b3, b4⟩ := runs_put hr noGen_nil (clean_set c fun _ _ _ _ _ _ z => by cases z) (held_set d e)
      refine ⟨clean_set b2 (cleanE_gen b1), held_set b3 e, ?_⟩
      rw [put_set e] at b4
      rw [put_set e]
      unfold Wakes
      rw [hj2]
      exact ⟨e₁, _, b4, hq, e2, rfl⟩
    · obtain ⟨e1, rfl⟩ := h
      refine ⟨c, d, ?_⟩
      unfold Wakes
      rw [hj2]
      rename_i v hv
      cases v <;> first | exact ⟨e1, rfl⟩ | exact absurd rfl hv
    · obtain ⟨e1, rfl⟩ := h
      refine ⟨clean_set c (fun _ _ _ _ _ _ z => by cases z), held_set d e, ?_⟩
      rw [put_set e]
      unfold Wakes
      rw [hj2]
      exact ⟨e1, rfl⟩
  · rename_i hj
    obtain ⟨e₁, s₁, hr, hq, e2, rfl⟩ := h
    have e := held_not d hj fun ⟨_, _, _, _, _, _, z, hk⟩ => by
      cases z
      exact not_unsup hr (hk _)
    obtain ⟨b1, b2, b3, b4⟩ := runs_put hr (c _ _ _ _ _ _ _ hj) (clean_set c fun _ _ _ _ _ _ z => by cases z) (held_set d e)
    refine ⟨clean_set b2 (cleanE_gen b1), held_set b3 e, ?_⟩
    rw [put_set e] at b4
    rw [put_set e]
    unfold Wakes
    rw [(put_none (D := D) e).trans hj]
    exact ⟨e₁, _, b4, hq, e2, rfl⟩
  · rename_i hj
    have e := held_not d hj fun ⟨_, _, _, _, _, _, z, _⟩ => by cases z
    obtain ⟨e1, rfl⟩ := h
    refine ⟨c, d, ?_⟩
    unfold Wakes
    rw [(put_none (D := D) e).trans hj]
    exact ⟨e1, rfl⟩
  · rename_i hj
    have e := held_not d hj fun ⟨_, _, _, _, _, _, z, _⟩ => by cases z
    obtain ⟨e1, rfl⟩ := h
    refine ⟨c, d, ?_⟩
    unfold Wakes
    rw [(put_none (D := D) e).trans hj]
    exact ⟨e1, rfl⟩
/-- behind a run in the put world -/
def Put (D : Nat → Option GenState) (P : Shared → Prop) (s' : Shared) : Prop := ∃ s1, Clean s1 ∧ Held D s1 ∧ s' = put D s1 ∧ P s1
theorem wp_put {α : Type} (M : Model) (Γ : Ctx) (D : Nat → Option GenState) (t : Sem α) : ∀ (Q : α → Pos → Shared → Prop) (E : Value → Pos → Shared → Prop) (p : Pos) (s : Shared), Clean s → Held D s → wp M Γ t Q E p s →
    wp M Γ t (fun a p' s' => Put D (Q a p') s') (fun e p' s' => Put D (E e p') s') p (put D s) := by
  induction t with
  | pure a => intro Q E p s c d h; exact ⟨s, c, d, rfl, h⟩
  | raise e => intro Q E p s c d h; exact ⟨s, c, d, rfl, h⟩
  | unsupported _ => intro Q E p s _ _ h; exact h
  | finish _ => intro Q E p s _ _ h; exact h
  | rule _ k ih => intro Q E p s c d h; exact ih () Q E p s c d h
  | «at» p' k ih => intro Q E p s c d h; exact ih () Q E p' s c d h
  | load a _ k ih => intro Q E p s c d h; obtain ⟨o, ho, h⟩ := h; exact ⟨o, ho, ih o Q E p s c d h⟩
  | update a _ f k ih => intro Q E p s c d h; exact ⟨h.1, ih () Q E p { s with heap := s.heap.update a f } c d h.2⟩
  | loadIfAlive a k ih => intro Q E p s c d h; exact ih _ Q E p s c d h
  | point _ k ih => intro Q E p s c d h; exact ih () Q E p s c d h
  | register _ _ => intro Q E p s _ _ h; exact h
  | alloc o k ih => intro Q E p s c d h; exact ih _ Q E p { s with heap := s.heap.push o } c d h
  | fresh k ih => intro Q E p s c d h; exact ih _ Q E p { s with toks := s.toks + 1 } c d h
  | ask k ih => intro Q E p s c d h; exact ih _ Q E p s c d h
  | choose src m k ih => intro Q E p s c d h; exact ⟨h.1, ih _ Q E p { s with drawn := s.drawn.bump src } c d h.2⟩
  | os q _ k ih => intro Q E p s c d h; exact ih _ Q E p { s with os := (Os.step s.os q).1 } c d h
  | call c0 hd _ _ k ih =>
    intro Q E p s c d h
    obtain ⟨r, s', hr, h⟩ := h
    obtain ⟨a2, a3, a4⟩ := returns_put hr c d
    exact ⟨r, _, a4, ih r Q E p s' a2 a3 h⟩
  | handled own k ih => intro Q E p s c d h; exact ih _ Q E p s c d h
  | genState g k ih =>
    intro Q E p s c d h
    obtain ⟨st, hs, h⟩ := h
    obtain ⟨y, hy, es⟩ := put_seen d hs
    exact ⟨y, hy, by rw [es]; exact ih _ Q E p s c d h⟩
  | newGen c0 k ih =>
    intro Q E p s c d h
    have out := held_out d (Array.getElem?_size (xs := s.gens))
    have := ih _ Q E p _ (fun i k l c0 p0 fs cl e => by
      have e : (_ : Array GenState)[i]? = _ := e
      rw [Array.getElem?_push] at e
      split at e
      · cases e
      · exact c i k l c0 p0 fs cl e) (fun i y e => by
      obtain ⟨x, e1, e2⟩ := d i y e
      refine ⟨x, ?_, e2⟩
      have hl := (Array.getElem?_eq_some_iff.mp e1).1
      show (Array.push _ _)[i]? = _
      rw [Array.getElem?_push, if_neg (by omega)]
      exact e1) h
    rw [put_push out] at this
    show wp M Γ (k (put D s).gens.size) _ _ p { put D s with gens := (put D s).gens.push (.fresh c0) }
    rw [put_size]
    exact this
  | resume g r _ k ih =>
    intro Q E p s c d h
    obtain ⟨res, s', hw, h⟩ := h
    obtain ⟨a2, a3, a4⟩ := wakes_put hw c d
    exact ⟨res, _, a4, ih res Q E p s' a2 a3 h⟩
  | yield _ _ _ _ => intro Q E p s _ _ h; exact h
  | stack k ih => intro Q E p s c d h; exact ih _ Q E p s c d h
  | fork _ _ => intro Q E p s _ _ h; exact h
  | thread k ih => intro Q E p s c d h; exact ih _ Q E p s c d h
  | await _ _ _ _ _ => intro Q E p s _ _ h; exact h
/-! ### all that sleep are frozen -/
def freezeF (F : Frame) : Frame := .ret (fun _ => .unsupported "") none false [] F.where_.1 F.where_.2 []
def freezeG : GenState → GenState
  | .suspended _ l c p fs cl => .suspended (fun _ => .unsupported "") l c p (fs.map freezeF) cl
  | x => x
def frozen (s : Shared) : Shared := { s with gens := s.gens.map freezeG }
def asleep (s : Shared) (i : Nat) : Option GenState := match s.gens[i]? with
  | some (.suspended k l c p fs cl) => some (.suspended k l c p fs cl)
  | _ => none
theorem frozen_get {s : Shared} {i : Nat} : (frozen s).gens[i]? = s.gens[i]?.map freezeG := by
  show (s.gens.map freezeG)[i]? = _
  rw [Array.getElem?_map]
theorem noGen_freeze (fs : List Frame) : NoGen (fs.map freezeF) := by
  induction fs with
  | nil => rfl
  | cons F fs ih => exact noGen_cons ih
theorem frozen_clean (s : Shared) : Clean (frozen s) := fun i k l c p fs cl e => by
  rw [frozen_get] at e
  cases q : s.gens[i]? with
  | none => rw [q] at e; cases e
  | some x =>
    rw [q] at e
    cases x with
    | suspended k l c p fs cl => cases e; exact noGen_freeze _
    | _ => cases e
theorem frozen_held (s : Shared) : Held (asleep s) (frozen s) := fun i y e => by
  unfold asleep at e
  split at e
  · rename_i k l c p fs cl q
    cases e
    refine ⟨_, by rw [frozen_get, q]; rfl, ⟨_, _, _, _, _, _, rfl, fun _ => rfl⟩, ?_⟩
    show (_, some ((c, p) :: (fs.map freezeF).map Frame.where_)) = (_, some ((c, p) :: fs.map Frame.where_))
    rw [List.map_map]
    rfl
  · cases e
theorem frozen_put (s : Shared) : put (asleep s) (frozen s) = s := by
  show ({ frozen s with gens := (frozen s).gens.mapIdx fun i x => (asleep s i).getD x } : Shared) = s
  have : (frozen s).gens.mapIdx (fun i x => (asleep s i).getD x) = s.gens := by
    apply Array.ext_getElem?
    intro i
    rw [Array.getElem?_mapIdx, frozen_get]
    unfold asleep
    cases q : s.gens[i]? with
    | none => rfl
    | some x => cases x <;> rfl
  rw [this]
  rfl
theorem bare_freeze {x : GenState} : (freezeG x).bare = x.bare := by cases x <;> rfl
theorem asleep_bare {s : Shared} (h : ∀ x ∈ s.gens, x.bare = true) {i : Nat} {y : GenState} (e : asleep s i = some y) : y.bare = true := by
  unfold asleep at e
  split at e
  · rename_i q
    cases e
    exact h _ (Array.mem_of_getElem? q)
  · cases e
theorem asleep_at {s : Shared} {i : Nat} {x : GenState} (h : s.gens[i]? = some x) (hs : ∃ k l c p fs cl, x = .suspended k l c p fs cl) : asleep s i = some x := by
  obtain ⟨_, _, _, _, _, _, rfl⟩ := hs
  unfold asleep
  rw [h]
theorem wpAny_frozen {α : Type} {M : Model} {A : Around} {s : Shared} {t : Sem α} {Q : α → Shared → Prop} {E : Value → Shared → Prop} (h : wpAny M A t Q E (frozen s)) :
    wpAny M A t (fun a s' => Put (asleep s) (Q a) s') (fun e s' => Put (asleep s) (E e) s') s := fun Γ p hΓ => by
  have := wp_put M Γ (asleep s) t _ _ p (frozen s) (frozen_clean s) (frozen_held s) (h Γ p hΓ)
  rw [frozen_put] at this
  exact this
end GenW
set_option Elab.async false
set_option linter.all false
set_option maxRecDepth 100000
/-! GenFor: for in the body of a generator def. -/
namespace PySem
def forOut (target : Expr) (it : Value) (body orelse : List Stmt) (env : Env) : Flow → Sem Fin
  | .next => .pure (.again (.forLoop target it body orelse env))
  | .cont => .pure (.again (.forLoop target it body orelse env))
  | .brk => .pure (.done .next)
  | .ret v => .pure (.done (.ret v))
def badOut (env : Env) (e : Value) : Sem Fin := Sem.wrap (fun _ => .raise e) .raise id id (do noteFrame e env; theTreesLotGoes e : Sem Unit)
section
variable {M : Model} {A : Around} {R : GenEnd} {Y : Protocol} {n : Nat} {s₀ : Shared} {c : Code} {fs : List Frame} {s : Shared} {env : Env}
  {K : Flow → Sem Fin} {H : Value → Sem Fin} {gd : Bool → Bool} {lv : List Value → List Value}
theorem seg_For {target iter : Expr} {body orelse : List Stmt} {pos : Pos}
    (h : wpAny M (A.over c fs) (eval iter env) (fun x s1 => wpAny M (A.over c fs) (pyIter x) (fun it s2 => ∀ p, Seg M A R Y n s₀ (.forLoop target it body orelse env) (M.den (.forLoop target it body orelse env))
      (.ret (fun r => ((match r with | .ok f => (.pure f : Sem Flow) | .error e => .raise e).onRaise fun (x : Value) => do
        if (← field x 1) == Value.none then unsupported "frame.own-activation:exception-without-traceback"
        setFlight x env.frame).wrap K H gd lv) none (gd false) (lv []) c p [] :: fs) s2) (fun x s' => Seg M A R Y n s₀ c (H x) fs s') s1) (fun x s' => Seg M A R Y n s₀ c (H x) fs s') s)
    (hs : ∀ x, foldedSetIterable iter env x = pure x := by intro _; rfl) :
    Seg M A R Y n s₀ c ((exec (.For target iter body orelse pos) env).wrap K H gd lv) fs s := by
  rw [exec_For]
  refine seg_at ?_
  show Seg M A R Y n s₀ c (((eval iter env >>= fun v => foldedSetIterable iter env v >>= fun x => _)).wrap K H gd lv) fs s
  rw [Sem.bind_eq_wrap', Sem.wrap_wrap]
  refine seg_wrap (wpAny_mono h (fun v s1 h1 => ?_) fun _ _ x => x)
  show Seg M A R Y n s₀ c ((foldedSetIterable iter env v >>= fun x => _).wrap K H gd lv) fs s1
  rw [hs v]
  show Seg M A R Y n s₀ c (.at iter.pos fun _ => _) fs s1
  refine seg_at ?_
  show Seg M A R Y n s₀ c ((holding [v] (pyIter v) >>= fun it => runOwn (.forLoop target it body orelse env) env).wrap K H gd lv) fs s1
  rw [Sem.bind_eq_wrap', Sem.wrap_wrap]
  refine seg_wrap (wpAny_holding (wpAny_mono h1 (fun it s2 h2 => ?_) fun _ _ x => x))
  exact seg_call h2
end
section
variable {prog : Program} {w : World} {A : Around} {R : GenEnd} {Y : Protocol} {n : Nat} {s₀ : Shared} {fs : List Frame} {s : Shared} {env : Env}
theorem seg_forLoop {target : Expr} {it : Value} {body orelse : List Stmt} (bad : Value → Shared → Prop)
    (hbad : ∀ x s', bad x s' → Seg (model prog w) A R Y n s₀ (.forLoop target it body orelse env) (badOut env x) fs s')
    (h : wpAny (model prog w) (A.over (.forLoop target it body orelse env) fs) (pyNext it) (fun r s1 => match r with
      | none => Seg (model prog w) A R Y n s₀ (.forLoop target it body orelse env) (.pure (.again (.block orelse env))) fs s1
      | some v => wpAny (model prog w) (A.over (.forLoop target it body orelse env) fs) (letOwnedTupleGo target it v) (fun _ s2 => wpAny (model prog w) (A.over (.forLoop target it body orelse env) fs) (assign target env v) (fun _ s3 =>
          Seg (model prog w) A R Y n s₀ (.forLoop target it body orelse env) ((execs body env).wrap (forOut target it body orelse env) (badOut env) id id) fs s3) bad s2) bad s1) bad s) :
    Seg (model prog w) A R Y n s₀ (.forLoop target it body orelse env) ((model prog w).den (.forLoop target it body orelse env)) fs s := by
  have hb' : ∀ x s', bad x s' → Seg (model prog w) A R Y n s₀ (.forLoop target it body orelse env) ((do noteFrame x env; theTreesLotGoes x : Sem Unit).bind fun _ => .raise x) fs s' := fun x s' hx => by
    rw [Sem.bind_eq_wrap]
    exact hbad x s' hx
  show Seg _ A R Y n s₀ _ ((forTurn target it body orelse env).onRaise (fun x => do noteFrame x env; theTreesLotGoes x)) fs s
  unfold forTurn
  rw [Sem.onRaise_eq_wrap]
  refine seg_at ?_
  show Seg _ A R Y n s₀ _ ((((pyNext it).onRaise fun _ => standAt { target.pos with line := 0 }) >>= fun r => _).wrap _ _ _ _) fs s
  rw [Sem.bind_eq_wrap', Sem.wrap_wrap]
  refine seg_wrap (wpAny_onRaise (wpAny_mono h (fun r s1 h1 => ?_) fun x s' hx => wpAny_standAt (hb' x s' hx)))
  cases r with
  | none => exact h1
  | some v =>
    show Seg _ A R Y n s₀ _ ((letOwnedTupleGo target it v >>= fun _ => _).wrap _ _ _ _) fs s1
    rw [Sem.bind_eq_wrap', Sem.wrap_wrap]
    refine seg_wrap (wpAny_mono h1 (fun _ s2 h2 => ?_) fun x s' hx => hb' x s' hx)
    show Seg _ A R Y n s₀ _ ((assign target env v >>= fun _ => _).wrap _ _ _ _) fs s2
    rw [Sem.bind_eq_wrap', Sem.wrap_wrap]
    refine seg_wrap (wpAny_mono h2 (fun _ s3 h3 => ?_) fun x s' hx => hb' x s' hx)
    show Seg _ A R Y n s₀ _ ((execs body env >>= fun f => _).wrap _ _ _ _) fs s3
    rw [Sem.bind_eq_wrap', Sem.wrap_wrap]
    have eb : ∀ e, ((do noteFrame e env; theTreesLotGoes e : Sem Unit).bind fun _ => .raise e) = badOut env e := fun e => by
      rw [Sem.bind_eq_wrap]
      rfl
    rw [Sem.wrap_congr (execs body env) _ _ (K' := forOut target it body orelse env) (H' := badOut env) (fun f => by cases f <;> rfl) (fun e => by exact eb e)]
    exact h3
end
end PySem
namespace L2
open PySem PySem.Spec PyProof.Rows GenW
section
variable {X : Cx}
/-- a for loop whose body may hand out -/
def tGFor (wi : TI) (g : TG) (tb : TGn) : TGn := fun D ys σ H => wi σ H fun J H1 => ∃ W : Nat → Nat → List V → St → Hp → Prop, (∃ m, W 0 m ys σ H1) ∧ ∀ i m ys σ H, W i m ys σ H →
  (J.stop i H ∧ D.nx ys σ H) ∨ (J.go i H ∧ ∃ N : List V → St → Hp → Prop, (∀ ys' σ' H', N ys' σ' H' → ∃ m', m' < m ∧ W (i + 1) m' ys' σ' H') ∧ ∀ v H', J.yld i H v H' → g v σ H' fun σ2 H2 => tb { D with nx := N, ct := N, bk := D.nx } ys σ2 H2)
theorem gi_unpin {S : Addr} {ip ps : List (Addr × Obj)} {ys : List V} {σ : St} {H : Hp} {s : Shared} (h : GI X S (ip ++ ps) ys σ H s) : GI X S ip ys σ H s := by
  obtain ⟨acc, c, r, I⟩ := h
  exact ⟨acc, c, r, Inv.unpinned (pins := (S, lstObj acc c) :: ip) I⟩
theorem gs_for {tg iter : Expr} {body : List Stmt} {pos : Pos} {wi : TI} {g : TG} {tb : TGn} (hp : PassesOwn (model X.prog X.w) X.A X.env X.xe) (hc : X.calm = true) (hi : PI X tg iter wi) (hg : PG X tg g) (hb : GSs X body tb)
    (hs : ∀ x, foldedSetIterable iter X.env x = pure x := by intro _; rfl) : GS X (.For tg iter body [] pos) (tGFor wi g tb) := by
  refine ⟨fun A S ip R n ys s₀ c fs K Jx gd lv s σ H D gc hn k hI ht => ?_⟩
  obtain ⟨acc0, cc0, r0, I0⟩ := hI
  refine seg_For ?_ hs
  rw [gc.over]
  refine wpAny_mono (hi.run _ s σ H _ I0 ht) (fun v s1 h1 => wpAny_mono h1 (fun itv s2 h2 p => ?_) fun x s' hx => k.exc n s₀ x s' hx) fun x s' hx => k.exc n s₀ x s' hx
  obtain ⟨it, fp, tn, J, H2, e, I2, T, st2, f2, W, ⟨m0, w0⟩, turn⟩ := h2
  subst e
  have gl := fun (kk : Result → Sem PySem.Fin) => gc_loop (k := kk) (c' := .forLoop tg (.ref it) body [] X.env) (l := lv []) (kp := []) (p := p) gc rfl rfl
  have fS : ∀ b ∈ fp, b ≠ S := fun b hb => by
    have q := (f2 b hb).2.2.2.2.2 (S, lstObj acc0 cc0) (List.mem_append_right _ List.mem_cons_self)
    exact fun e => q e.symm
  have stat : ∀ {acc : Array Value} {c : Nat} {H' : Hp}, (∀ b ∈ fp, H' b = none) → ∀ b ∈ fp, FpOk X ((S, lstObj acc c) :: ip) H' b := fun hn b hb => by
    obtain ⟨_, g1, g2, g3, g4, g5⟩ := f2 b hb
    refine ⟨hn b hb, g1, g2, g3, g4, fun p hp => ?_⟩
    rcases List.mem_append.mp hp with h | h
    · exact g5 p (List.mem_append_left _ h)
    · rcases List.mem_cons.mp h with e | h
      · rw [e]; exact fun z => fS b hb z.symm
      · exact g5 p (List.mem_append_right _ (List.mem_cons_of_mem _ h))
  have loop : ∀ (m i n : Nat) (ys : List V) (s₀ s : Shared) (σ : St) (H : Hp), n + ys.length = sizeLine → W i m ys σ H → GI X S ip ys σ H s → tn i s.heap → (∀ b ∈ fp, H b = none) →
      Seg (model X.prog X.w) A R (GY X S) n s₀ (.forLoop tg (.ref it) body [] X.env) ((model X.prog X.w).den (.forLoop tg (.ref it) body [] X.env))
        (.ret (fun r => ((match r with | .ok f => (.pure f : Sem Flow) | .error e => .raise e).onRaise (cameBack X.env)).wrap K Jx gd lv) none (gd false) (lv []) c p [] :: fs) s := by
    intro m
    induction m using Nat.strongRecOn with
    | ind m ih =>
      intro i n ys s₀ s σ H hn w hI st fr
      have ee : ∀ (n : Nat) (s₀ : Shared) (x : Value) (s' : Shared), X.xe x s' → Seg (model X.prog X.w) A R (GY X S) n s₀ (.forLoop tg (.ref it) body [] X.env) (badOut X.env x)
          (.ret (fun r => ((match r with | .ok f => (.pure f : Sem Flow) | .error e => .raise e).onRaise (cameBack X.env)).wrap K Jx gd lv) none (gd false) (lv []) c p [] :: fs) s' := fun n s₀ x s' hx => by
        refine seg_wrap ?_
        rw [(gl _).over]
        refine wpAny_bind (wpAny_mono (hp x s' hx) (fun _ s2 hcb => wpAny_theTreesLotGoes (seg_leaf (.error x) (seg_cameBack gc k hcb))) fun y s2 hcb => seg_leaf (.error y) (seg_cameBack gc k hcb))
      obtain ⟨acc, cc, r, I⟩ := hI
      refine seg_forLoop X.xe (fun x s' hx => ee n s₀ x s' hx) ?_
      rw [(gl _).over]
      rcases turn i m ys σ H w with ⟨stop, qn⟩ | ⟨go, N, hN, step⟩
      · refine wpAny_mono (T.done X rfl rfl rfl hc i _ s σ H X.xe I (stat fr) st stop) (fun rr s4 ⟨hr, I4⟩ => ?_) fun x s' hx => hx
        subst hr
        refine seg_again rfl ?_
        show Seg _ A R (GY X S) n s₀ (.block [] X.env) (.pure (.done .next)) _ s4
        exact seg_leaf (.ok .next) (k.ok n ys s₀ s4 .next hn ⟨σ, H, ⟨acc, cc, r, I4⟩, qn⟩)
      · refine wpAny_mono (T.item X rfl rfl rfl hc i _ s σ H X.xe I (stat fr) st go) (fun rr s4 ⟨u, hr, h4⟩ => ?_) fun x s' hx => hx
        subst hr
        refine wpAny_mono h4 (fun _ s5 ⟨x, H5, I5, r5, y5, st5, fr5⟩ => ?_) fun x s' hx => hx
        have I5' := I5.pinned (stat fr5) (T.obj _ _ st5)
        refine wpAny_mono (hg.run _ s5 σ H5 x u _ I5' r5 (step x H5 y5)) (fun _ s6 ⟨σ6, H6, I6, q6⟩ => ?_) fun x s' hx => hx
        have fin : ∀ {ys' : List V} {σ3 : St} {H3 : Hp} {s3 : Shared}, GI X S (ip ++ pinsAt fp s5.heap) ys' σ3 H3 s3 → tn (i + 1) s3.heap ∧ ∀ b ∈ fp, H3 b = none := fun {ys' σ3 H3 s3} ⟨acc3, c3, r3, I3⟩ =>
          ⟨T.keep _ _ _ st5 fun b hb o e => (I3.pin (b, o) (List.mem_append_right _ (List.mem_cons_of_mem _ (List.mem_append_right _ (mem_pinsAt hb e))))).1, fun b hb => by
            obtain ⟨o, e, d⟩ := T.obj _ _ st5 b hb
            exact (I3.pin (b, o) (List.mem_append_right _ (List.mem_cons_of_mem _ (List.mem_append_right _ (mem_pinsAt hb e))))).2.1⟩
        refine hb.run A S (ip ++ pinsAt fp s5.heap) R n ys s₀ _ _ _ _ id id s6 σ6 H6 { D with nx := N, ct := N, bk := D.nx } { gl _ with ip := fun p hp => ?_ } hn ⟨fun n' ys' s₀' s3 f hn' hs => ?_, fun n' s₀' x s3 hx => ee n' s₀' x s3 hx⟩ ⟨acc, cc, r, I6⟩ q6
        · rcases List.mem_append.mp hp with h | h
          · exact gc.ip p h
          · exact fS p.1 (of_pinsAt h).1
        · cases f with
          | next =>
            obtain ⟨σ3, H3, I3, n3⟩ := hs
            obtain ⟨m', hm, w3⟩ := hN ys' σ3 H3 n3
            exact seg_again rfl (ih m' hm (i + 1) n' ys' s₀' s3 σ3 H3 hn' w3 (gi_unpin I3) (fin I3).1 (fin I3).2)
          | cont =>
            obtain ⟨σ3, H3, I3, n3⟩ := hs
            obtain ⟨m', hm, w3⟩ := hN ys' σ3 H3 n3
            exact seg_again rfl (ih m' hm (i + 1) n' ys' s₀' s3 σ3 H3 hn' w3 (gi_unpin I3) (fin I3).1 (fin I3).2)
          | brk =>
            obtain ⟨σ3, H3, I3, n3⟩ := hs
            exact seg_leaf (.ok .next) (k.ok n' ys' s₀' s3 .next hn' ⟨σ3, H3, gi_unpin I3, n3⟩)
          | ret v =>
            obtain ⟨v3, σ3, H3, I3, r3, n3⟩ := hs
            exact seg_leaf (.ok (.ret v)) (k.ok n' ys' s₀' s3 (.ret v) hn' ⟨v3, σ3, H3, gi_unpin I3, r3, n3⟩)
  exact loop m0 0 n ys s₀ s2 σ H2 hn w0 ⟨acc0, cc0, r0, I2⟩ st2 fun b hb => (f2 b hb).1
end
end L2
set_option Elab.async false
set_option linter.all false
set_option maxRecDepth 100000
set_option maxHeartbeats 2000000
/-! GenTail: generators of the shape «..; for x in XS: yield x». -/
namespace PySem
open Sem (wp)
/-- the first run of a generator: what is known of its end, and nothing of its turns yet -/
def SegQ (M : Model) (A : Around) (Φ : End → Shared → Prop) (c : Code) (t : Sem Fin) (fs : List Frame) (s : Shared) : Prop := ∀ Γ p, Γ.code = c → Γ.Woken A → ∃ e s', Runs M Γ p t fs s e s' ∧ Φ e s'
section
variable {M : Model} {A : Around} {Φ : End → Shared → Prop} {c : Code} {fs : List Frame} {s : Shared} {env : Env} {K : Flow → Sem Fin} {H : Value → Sem Fin} {gd : Bool → Bool} {lv : List Value → List Value}
theorem segq_wrap {α : Type} {m : Sem α} {K : α → Sem Fin} {H : Value → Sem Fin} {gd lv} (h : wpAny M (A.over c fs) m (fun a s' => SegQ M A Φ c (K a) fs s') (fun x s' => SegQ M A Φ c (H x) fs s') s) : SegQ M A Φ c (m.wrap K H gd lv) fs s := by
  rintro Γ p rfl hΓ
  exact runs_wrap_of_wp K H gd lv m (h (Γ.over fs) p (hΓ.over fs)) (fun a p' s' h' => h' Γ p' rfl hΓ) (fun x p' s' h' => h' Γ p' rfl hΓ)
theorem segq_at {p' : Pos} {k : Unit → Sem Fin} (h : SegQ M A Φ c (k ()) fs s) : SegQ M A Φ c (.at p' k) fs s :=
  segq_wrap (m := standAt p') (K := k) (H := .raise) (gd := id) (lv := id) (wpAny_standAt h)
theorem segq_point {l : List Value} {k : Unit → Sem Fin} (h : SegQ M A Φ c (k ()) fs s) : SegQ M A Φ c (.point l k) fs s :=
  segq_wrap (m := point) (K := k) (H := .raise) (gd := id) (lv := fun _ => l) (wpAny_point h)
theorem segq_of {R : GenEnd} {Y : Protocol} {n : Nat} {s₀ : Shared} {t : Sem Fin} (h : Seg M A R Y n s₀ c t fs s) (hΦ : ∀ e s', SegEnd R Y n (Seg.next M A R Y n) s₀ e s' → Φ e s') : SegQ M A Φ c t fs s := fun Γ p e hΓ => by
  obtain ⟨e, s', hr, he⟩ := seg_iff.mp h Γ p e hΓ
  exact ⟨e, s', hr, hΦ e s' he⟩
theorem execs_app : ∀ (a b : List Stmt), (execs (a ++ b) env).wrap K H gd lv = (execs a env).wrap (fun f => match f with | .next => (execs b env).wrap K H gd lv | f => K f) H gd lv
  | [], b => rfl
  | st :: a, b => by
    rw [List.cons_append, execs_cons_wrap, execs_cons_wrap]
    refine Sem.wrap_congr _ gd lv (fun f => ?_) fun _ => rfl
    cases f with
    | next => exact execs_app a b
    | _ => rfl
theorem execs_append_wrap {a b : List Stmt} (h : SegQ M A Φ c ((execs a env).wrap (fun f => match f with | .next => (execs b env).wrap K H gd lv | f => K f) H gd lv) fs s) : SegQ M A Φ c ((execs (a ++ b) env).wrap K H gd lv) fs s := by
  rw [execs_app]; exact h
end
section
variable {prog : Program} {w : World} {A : Around} {Φ : End → Shared → Prop} {fs : List Frame} {s : Shared} {env : Env}
theorem segq_func {body : List Stmt} (h : SegQ (model prog w) A Φ (.func body env) ((execs body env).wrap (fun f => .pure (.done (.ret (match f with | .ret v => v | _ => .none)))) (fun e => (leaving env e).wrap (fun _ => .raise e) .raise id id) id id) fs s) :
    SegQ (model prog w) A Φ (.func body env) ((model prog w).den (.func body env)) fs s := by
  show SegQ _ A Φ _ (.point [] fun _ => ((execs body env).onRaise (leaving env)) >>= _) fs s
  refine segq_point ?_
  rw [Sem.onRaise_eq_wrap, Sem.bind_eq_wrap', Sem.wrap_wrap]
  rw [Sem.wrap_congr (execs body env) _ _ (K' := fun f => .pure (.done (.ret (match f with | .ret v => v | _ => .none)))) (H' := fun e => (leaving env e).wrap (fun _ => .raise e) .raise id id) (fun f => by cases f <;> rfl)
    (fun e => by rw [Sem.bind_eq_wrap, Sem.wrap_wrap]; rfl)]
  exact h
variable {c : Code} {K : Flow → Sem Fin} {H : Value → Sem Fin} {gd : Bool → Bool} {lv : List Value → List Value}
theorem segq_For {M : Model} {target iter : Expr} {body orelse : List Stmt} {pos : Pos}
    (h : wpAny M (A.over c fs) (eval iter env) (fun x s1 => wpAny M (A.over c fs) (pyIter x) (fun it s2 => SegQ M A Φ c (.call (.forLoop target it body orelse env) none (gd false) (lv []) (fun r => ((match r with | .ok f => (.pure f : Sem Flow) | .error e => .raise e).onRaise fun (x : Value) => do
        if (← field x 1) == Value.none then unsupported "frame.own-activation:exception-without-traceback"
        setFlight x env.frame).wrap K H gd lv)) fs s2) (fun x s' => SegQ M A Φ c (H x) fs s') s1) (fun x s' => SegQ M A Φ c (H x) fs s') s)
    (hs : ∀ x, foldedSetIterable iter env x = pure x := by intro _; rfl) :
    SegQ M A Φ c ((exec (.For target iter body orelse pos) env).wrap K H gd lv) fs s := by
  have bw : ∀ {α β : Type} {m : Sem α} {f : α → Sem β} {K : β → Sem Fin} {s : Shared}, wpAny M (A.over c fs) m (fun a s' => SegQ M A Φ c ((f a).wrap K H gd lv) fs s') (fun x s' => SegQ M A Φ c (H x) fs s') s → SegQ M A Φ c ((m >>= f).wrap K H gd lv) fs s := fun {α β m f K s} h => by
    rw [Sem.bind_eq_wrap', Sem.wrap_wrap]
    exact segq_wrap h
  rw [exec_For]
  refine segq_at ?_
  show SegQ M A Φ c (((eval iter env >>= fun v => foldedSetIterable iter env v >>= fun x => _)).wrap K H gd lv) fs s
  refine bw (wpAny_mono h (fun v s1 h1 => ?_) fun _ _ x => x)
  show SegQ M A Φ c ((foldedSetIterable iter env v >>= fun x => _).wrap K H gd lv) fs s1
  rw [hs v]
  show SegQ M A Φ c (.at iter.pos fun _ => _) fs s1
  refine segq_at ?_
  show SegQ M A Φ c ((holding [v] (pyIter v) >>= fun it => runOwn (.forLoop target it body orelse env) env).wrap K H gd lv) fs s1
  refine bw (wpAny_holding (wpAny_mono h1 (fun it s2 h2 => ?_) fun _ _ x => x))
  exact h2
/-! ### the turns -/
def TailSt (L it l : Addr) (items : Array Value) (j : Nat) (h : Heap) : Prop := (∃ m, h.Ns L m) ∧ h.IsListIter it l j ∧ h.IsList l items
structure KeptBut (ps : List Addr) (s s' : Shared) : Prop where
  os : s'.os = s.os
  gens : s'.gens = s.gens
  keep : ∀ b o, b ∉ ps → s.heap.get? b = some o → s'.heap.get? b = some o
theorem KeptBut.refl {ps : List Addr} {s : Shared} : KeptBut ps s s := ⟨rfl, rfl, fun _ _ _ e => e⟩
theorem KeptBut.heap {ps : List Addr} {s s' : Shared} {h' : Heap} {tk : Nat} (k : KeptBut ps s s') (hk : ∀ b o, b ∉ ps → s'.heap.get? b = some o → h'.get? b = some o) : KeptBut ps s { s' with heap := h', toks := tk } :=
  ⟨k.os, k.gens, fun b o hb e => hk b o hb (k.keep b o hb e)⟩
def TY (L it l : Addr) (items : Array Value) : Protocol := fun n s₀ v s1 kap => ∃ j, j + n + 1 = items.size ∧ items[j]? = some v ∧ TailSt L it l items (j + 1) s1.heap ∧ KeptBut [L, it] s₀ s1 ∧ ∀ s'', TailSt L it l items (j + 1) s''.heap → kap (.send .none) s''
def TR (L it : Addr) : GenEnd := fun n s₀ r s1 => n = 0 ∧ r = .ok (.ret .none) ∧ KeptBut [L, it] s₀ s1
theorem tail_ne {L it l : Addr} {items : Array Value} {j : Nat} {h : Heap} (t : TailSt L it l items j h) : L ≠ it ∧ L ≠ l ∧ it ≠ l := by
  obtain ⟨⟨m, o, es, ep, e1, e2, _⟩, ⟨o2, e3, e4, e5⟩, ⟨o3, e6, e7, n8, e9⟩⟩ := t
  refine ⟨fun z => ?_, fun z => ?_, fun z => ?_⟩
  · subst z; rw [e1] at e3; cases e3; rw [e2] at e5; cases e5
  · subst z; rw [e1] at e6; cases e6; rw [e2] at e9; cases e9
  · subst z; rw [e3] at e6; cases e6; rw [e5] at e9; cases e9
theorem seg_tail {L it l : Addr} {items : Array Value} {x : Str} {tp yp1 yp pos1 : Pos} {k0 : Result → Sem Fin} {l0 kp : List Value} {c1 : Code} {p1 : Pos} {fs1 : List Frame} (hL : env.locals = L) (hk : env.scope.kind = .function) (hl : env.kindOf x = some .local) (hx : (x == ("__debug__" : Str)) = false) (hco : env.scope.isCoroutine = false) (hin : interactive env = false)
    (hsp : splitAtGen fs1 = none) (hgd : fs1.any Frame.guarded = false)
    (ho : (A.over (.forLoop (.Name x tp) (.ref it) [.Expr (.Yield (some (.Name x yp1)) yp) pos1] [] env) (.ret k0 none false l0 c1 p1 kp :: fs1)).handled = none)
    (hend : ∀ s₀ s, KeptBut [L, it] s₀ s → Seg (model prog w) A (TR L it) (TY L it l items) 0 s₀ c1 (k0 (.ok .next)) fs1 s) :
    ∀ (r j : Nat) (s₀ s : Shared), j + r = items.size → TailSt L it l items j s.heap → KeptBut [L, it] s₀ s →
      Seg (model prog w) A (TR L it) (TY L it l items) r s₀ (.forLoop (.Name x tp) (.ref it) [.Expr (.Yield (some (.Name x yp1)) yp) pos1] [] env)
        ((model prog w).den (.forLoop (.Name x tp) (.ref it) [.Expr (.Yield (some (.Name x yp1)) yp) pos1] [] env)) (.ret k0 none false l0 c1 p1 kp :: fs1) s := by
  subst hL
  have hsp2 : splitAtGen (.ret k0 none false l0 c1 p1 kp :: fs1) = none := by
    show (splitAtGen fs1).map _ = none
    rw [hsp]; rfl
  have hgd2 : (Frame.ret k0 none false l0 c1 p1 kp :: fs1).any Frame.guarded = false := by
    show (false || fs1.any Frame.guarded) = false
    rw [hgd]; rfl
  intro r
  induction r with
  | zero =>
    intro j s₀ s hj st kb
    obtain ⟨hns, hit, hls⟩ := st
    refine seg_forLoop (fun _ _ => False) (fun _ _ h => h.elim) ?_
    refine wpAny_pyNext_list_end ho hit hls (by rw [Array.getElem?_eq_none (by omega)]) fun h' eb => ?_
    refine seg_again rfl ?_
    show Seg _ A _ _ 0 s₀ (.block [] env) (.pure (.done .next)) _ _
    exact seg_leaf (.ok .next) (hend _ _ (kb.heap fun b o hb e => eb b o (fun z => hb (by rw [z]; simp)) e))
  | succ r ih =>
    intro j s₀ s hj st kb
    have ne := tail_ne st
    obtain ⟨⟨m, hns⟩, hit, hls⟩ := st
    have hjl : j < items.size := by omega
    refine seg_forLoop (fun _ _ => False) (fun _ _ h => h.elim) ?_
    refine wpAny_pyNext_list_item hit hls (Array.getElem?_eq_getElem hjl) fun h1 hit1 sb1 => ?_
    have k1 : ∀ b o, b ≠ it → s.heap.get? b = some o → h1.get? b = some o := fun b o hb e => (sb1.2 b hb).trans e
    obtain ⟨oi, ei1, ei2, ei3⟩ := id hit1
    refine L2.go_of (s := { s with heap := h1 }) ei1 ei2 ei3 (by decide) ?_
    have hns1 : h1.Ns env.locals m := hns.at' fun o e => k1 _ o ne.1 e
    refine wpAny_assign_Name (wpAny_storeName_local (s := { s with heap := h1 }) hl hns1 (fun h2 hns2 sb2 => ?_) (by rw [hk]; rfl))
    have k2 : ∀ b o, b ≠ env.locals → h1.get? b = some o → h2.get? b = some o := fun b o hb e => (sb2.2 b hb).trans e
    have st2 : TailSt env.locals it l items (j + 1) h2 := ⟨⟨_, hns2⟩, ⟨oi, k2 _ _ (Ne.symm ne.1) ei1, ei2, ei3⟩, hls.at fun o e => k2 _ o (Ne.symm ne.2.1) (k1 _ o (Ne.symm ne.2.2) e)⟩
    have kb2 : KeptBut [env.locals, it] s₀ { s with heap := h2, toks := s.toks + 1 } := kb.heap fun b o hb e => k2 b o (fun z => hb (by rw [z]; simp)) (k1 b o (fun z => hb (by rw [z]; simp)) e)
    refine seg_execs_cons ?_
    refine seg_Expr_Yield hsp2 rfl hgd2 ?_ hco hin
    refine wpAny_Name (wpAny_loadName_local hk hl hns2 (by rw [if_pos rfl]) ?_) hx
    intro kap hkap
    refine ⟨j, by omega, Array.getElem?_eq_getElem hjl, st2, kb2, fun s'' st'' => hkap .none s'' ?_⟩
    refine seg_execs_nil ?_
    exact seg_again rfl (ih (j + 1) s'' s'' (by omega) st'' .refl)
end
end PySem
set_option Elab.async false
set_option linter.all false
set_option maxRecDepth 100000
set_option maxHeartbeats 2000000
/-! GenMade: the promise of a generator def of the shape «..; for x in XS: yield x». -/
namespace L2
open PySem PySem.Spec PyProof.Rows GenW
/-- a list is let out of sight -/
def era (H : Hp) (l : Addr) : Hp := fun b => if b = l then none else H b
theorem era_same {H : Hp} {l : Addr} : era H l l = none := if_pos rfl
theorem era_ne {H : Hp} {l b : Addr} (h : b ≠ l) : era H l b = H b := if_neg h
theorem HOk.era {P : Program} {w : World} {H : Hp} {h : Heap} {l : Addr} {xs : List V} (x : HOk P w H h) (e : H l = some (.lst xs)) : HOk P w (era H l) h := fun b u q => by
  have hb : b ≠ l := fun z => by rw [z, era_same] at q; cases q
  rw [era_ne hb] at q
  refine (x b u q).stay (fun _ _ _ z => z) (fun c z => ?_) fun c ys z => ?_
  · rw [era_ne fun y => by rw [y, e] at z; cases z]; exact z
  · rw [era_ne fun y => by rw [y, e] at z; cases z]; exact z
theorem Un.era {fs ex : List Addr} {H H1 : Hp} {h h1 : Heap} {l : Addr} {xs : List V} (x : Un fs ex H H1 h h1) (e : H1 l = some (.lst xs)) : Un fs ex H (era H1 l) h h1 where
  keep := x.keep
  slot := x.slot
  free := fun b o q n hx => by
    by_cases z : b = l
    · rw [z]; exact era_same
    · rw [era_ne z]; exact x.free b o q n hx
  there := x.there
  tups := fun b xs q => by
    have := x.tups b xs q
    rw [era_ne fun y => by rw [y, e] at this; cases this]; exact this
  frzs := fun b o u q => by
    have := x.frzs b o u q
    rw [era_ne fun y => by rw [y, e] at this; cases this]; exact this
  tbls := fun b ps q => by
    obtain ⟨m, this⟩ := x.tbls b ps q
    exact ⟨m, by rw [era_ne fun y => by rw [y, e] at this; cases this]; exact this⟩
structure TInfo where
  L : Addr
  it : Addr
  l : Addr
  items : Array Value
  mid : Shared
/-- the loop begins -/
structure TGood (P : Program) (w : World) (outer : List Env) (H : Hp) (s : Shared) (a : Addr) (g : Nat) (ps : List (Addr × Obj)) (Q : List V → Hp → Prop) (i : TInfo) (H1 : Hp) (xs : List V) : Prop where
  vals : Vals xs i.items.toList
  len : xs.length ≤ sizeLine
  os : i.mid.os = s.os
  bare : AllBare i.mid.gens
  un : Un (frs outer) [] H H1 s.heap i.mid.heap
  ok : HOk P w H1 i.mid.heap
  young : ∀ b ∈ [i.L, i.it, a], s.heap.objs.size ≤ b ∧ H1 b = none
  ln : H1 i.l = none
  lf : ∀ b o, s.heap.get? b = some o → H b = none → b ≠ i.l
  apart : a ≠ i.L ∧ a ≠ i.it
  gen : i.mid.heap.IsGen a g
  pin : ∀ p ∈ ps, i.mid.heap.get? p.1 = some p.2 ∧ H1 p.1 = none ∧ p.1 ≠ i.L ∧ p.1 ≠ i.it ∧ p.1 ≠ i.l
  st : TailSt i.L i.it i.l i.items 0 i.mid.heap
  q : Q xs H1
abbrev SpT := List V → Hp → (List V → Hp → Prop) → Prop
def TEnd (P : Program) (w : World) (A : Around) (outer : List Env) (H : Hp) (s : Shared) (a : Addr) (g : Nat) (ps : List (Addr × Obj)) (Q : List V → Hp → Prop) (e : End) (s1 : Shared) : Prop :=
  ∃ i H1 xs, TGood P w outer H s a g ps Q i H1 xs ∧ SegEnd (TR i.L i.it) (TY i.L i.it i.l i.items) i.items.size (Seg.next (model P w) A (TR i.L i.it) (TY i.L i.it i.l i.items) i.items.size) i.mid e s1
def TMade (P : Program) (w : World) (k : Nat) (outer : List Env) (H : Hp) (s : Shared) (Q : List V → Hp → Prop) (u : Value) (s' : Shared) : Prop :=
  ∃ (a : Addr) (g : Nat) (c : Code), u = .ref a ∧ s.heap.objs.size ≤ a ∧ a < s'.heap.objs.size ∧ s'.heap.IsGen a g ∧ s'.gens[g]? = some (.fresh c) ∧ s'.os = s.os ∧ AllBare s'.gens ∧ s'.heap.NoLimit ∧ (∀ b o, s.heap.get? b = some o → s'.heap.get? b = some o) ∧
    ∀ (A : Around) (s2 : Shared) (ps : List (Addr × Obj)), Room k A → A.frames = some outer → (∀ b o, s'.heap.get? b = some o → s2.heap.get? b = some o) → s2.os = s.os → AllBare s2.gens → (∀ p ∈ ps, s2.heap.get? p.1 = some p.2 ∧ s'.heap.objs.size ≤ p.1 ∧ ∀ v, p.2.data ≠ .cell v) → SegQ (model P w) A (TEnd P w A outer H s a g ps Q) c ((model P w).den c) [] s2
structure TFn (P : Program) (w : World) (K : PySem.W.Frag) (mg : Str → Option Value) (base : Heap) (k : Nat) (f : Addr) (fd : FuncData) (ps : List Str) (sp : SpT) : Prop where
  len : ∀ vs H Q, sp vs H Q → vs.length = ps.length
  run : ∀ (A : Around) (outer : List Env) (s : Shared) (H : Hp) (args : Args) (us : List Value) (vs : List V) (Q : List V → Hp → Prop), Room k A → Env0 P w K mg base A outer s H → BindsTo s fd args (ps.zip us) → Vals vs us → sp vs H Q →
    codeAny (model P w) A (.call (.ref f) args) (fun r s' => match r with | .ok (.ret u) => TMade P w k outer H s Q u s' | _ => False) s
/-- the context of such a def's body -/
abbrev tcxOf (P : Program) (w : World) (K : PySem.W.Frag) (mg : Str → Option Value) (base : Heap) (N : List Str) (qual : Str) (scope : Scope) (f : Addr) (cd : Value) (A : Around) (outer : List Env) (s : Shared) (H : Hp) (pn : List (Addr × Obj)) : Cx :=
  (gcxOf P w K mg base N qual scope f cd A outer s H (fun _ _ _ => False) pn).nox
/-- THE RULE -/
theorem tfn_of {P : Program} {w : World} {K : PySem.W.Frag} {mg : Str → Option Value} {base : Heap} {k : Nat} {f : Addr} {name qual : Str} {params : Arguments} {body pre : List Stmt} {scope : Scope} {dV kV doc pm cdv ct oc : Value} {an od : Option Addr}
    {osl : Array (Option Value)} {N ps : List Str} {sp : SpT} {x : Str} {tp yp1 yp pos1 pos : Pos} {iter : Expr} (lk : K.lookup f = some ⟨oc, od, .func (PySem.W.fnOf name qual params body scope dV kV doc pm an cdv ct), osl⟩) (hcd : PySem.W.codeIn K cdv qual = true) (S : GScope N ps scope)
    (hbd : body = pre ++ [.For (.Name x tp) iter [.Expr (.Yield (some (.Name x yp1)) yp) pos1] [] pos]) (hx : scope.names.lookup x = some .local) (hxd : (x == ("__debug__" : Str)) = false)
    (hs : ∀ (env : Env) v, foldedSetIterable iter env v = pure v)
    (len : ∀ vs H Q, sp vs H Q → vs.length = ps.length)
    (hbody : ∀ (A : Around) (outer : List Env) (s : Shared) (H : Hp) (vs : List V) (Q : List V → Hp → Prop) (pn : List (Addr × Obj)), Room k (A.deeper (envOfC qual scope s.heap.objs.size f cdv)) → sp vs H Q →
      ∃ t te, PSs (tcxOf P w K mg base N qual scope f cdv A outer s H pn) pre t ∧ PE (tcxOf P w K mg base N qual scope f cdv A outer s H pn) iter te ∧
        t { nx := fun σ H' => te σ H' fun v H1 => ∃ l xs, v = .ref l ∧ H1 l = some (.lst xs) ∧ Q xs (era H1 l), rt := fun _ _ => False } (start N vs) H) :
    TFn P w K mg base (k + 1) f (PySem.W.fnOf name qual params body scope dV kV doc pm an cdv ct) ps sp := by
  refine ⟨len, fun A outer s H args us vs Q hr e0 hb r hsp => ?_⟩
  have hl := len _ _ _ hsp
  have KX : K.In s.heap := e0.mod.kin.keeps fun b o e => (e0.bs b o e).1
  have lim : s.heap.NoLimit := e0.mod.nolimit.keeps fun b o e => (e0.bs b o e).1
  have hkind : ∀ y ∈ ps.zip us, scope.names.lookup y.1 = some .local ∨ (scope.names.lookup y.1 = some .cell ∧ ((cellsFrom (s.heap.objs.size + 1) scope.names []).lookup y.1).isSome = true) := fun ⟨n, v⟩ hy => by
    rcases S.par n (List.of_mem_zip hy).1 with q | q
    · exact .inl q
    · exact .inr ⟨q, PySem.W.cellsFrom_some _ _ _ (.inl q)⟩
  refine codeAny_call_generator hr.depth (KX _ _ lk) rfl S.co S.gen rfl (PySem.W.codeRec_of KX hcd) (hb _ _ _ _ ?_)
  refine wpAny_newFunctionEnv_cells S.kind hkind fun env he s1 xx => ?_
  subst he
  have lim1 : s1.heap.NoLimit := lim.keeps xx.toInCall.keep
  refine ⟨lim1, ?_⟩
  obtain ⟨h1, tk, es1, hk1⟩ := xx.done
  have os1 : s1.os = s.os := by rw [es1]
  have gen1 : s1.gens = s.gens := by rw [es1]
  have lt1 : s.heap.objs.size < s1.heap.objs.size := xx.toInCall.ns.lt
  have sz1 : s.heap.objs.size ≤ s1.heap.objs.size := Nat.le_of_lt lt1
  have kp1 : ∀ b o, s.heap.get? b = some o → s1.heap.get? b = some o := xx.toInCall.keep
  have main : ∀ (go : Obj) (nm qn : Value) (tk2 : Nat), go.cls = .type "generator" → go.data = .fields #[.int s1.gens.size 0, nm, qn] → go.slots = #[] → (∀ h : Heap, (h.push go).get? h.objs.size = some go) →
      TMade P w (k + 1) outer H s Q (.ref s1.heap.objs.size) { s1 with gens := s1.gens.push (.fresh (.func body (envOfC qual scope s.heap.objs.size f cdv))), toks := tk2, heap := s1.heap.push go } := by
    intro go nm qn tk2 hgc hgd0 hgs hgp
    have hgen : ∀ h : Heap, h.get? s1.heap.objs.size = some go → h.IsGen s1.heap.objs.size s1.gens.size := fun h e => ⟨go, nm, qn, e, hgc, hgd0, hgs⟩
    have hpushed : (s1.heap.push go).get? s1.heap.objs.size = some go := hgp _
    refine ⟨s1.heap.objs.size, s1.gens.size, _, rfl, sz1, ?_, hgen _ hpushed, Array.getElem?_push_size .., os1, ?_, lim1.keeps fun b o e => Heap.get?_push_of_some _ e, fun b o e => Heap.get?_push_of_some _ (kp1 b o e), ?_⟩
    · show _ < (s1.heap.push _).objs.size
      rw [Heap.size_push]; exact Nat.lt_succ_self _
    · exact AllBare.push (by rw [gen1]; exact e0.bare) rfl
    intro Aw s2 ps2 hrw hfr hk2 hos hba hps
    have e0w : Env0 P w K mg base Aw outer s H := ⟨hfr, e0.mod, e0.bs, e0.bsz, e0.funs, e0.frf, e0.hok, e0.bare⟩
    obtain ⟨t, te, hpre, hit, hq⟩ := hbody Aw outer s H vs Q [(s1.heap.objs.size, go)] (hrw.deeper _) hsp
    have I1 : Inv (gcxOf P w K mg base N qual scope f cdv Aw outer s H (fun _ _ _ => False) []) [] (start N vs) H s1 := inv_startG S hrw.hd e0w hl r xx
    have kp2 : ∀ b o, s1.heap.get? b = some o → s2.heap.get? b = some o := fun b o e => hk2 b o (Heap.get?_push_of_some _ e)
    have I2 : Inv (gcxOf P w K mg base N qual scope f cdv Aw outer s H (fun _ _ _ => False) []) [] (start N vs) H s2 :=
      I1.call' (ch := []) (hos.trans os1.symm) (Un.kept kp2) (I1.hok.kept kp2) hba fun b z => by simp at z
    have hea : s2.heap.get? s1.heap.objs.size = some go := hk2 s1.heap.objs.size go hpushed
    have hgd : ∀ v, go.data ≠ .cell v := fun v q => by rw [hgd0] at q; cases q
    have I3 : Inv (tcxOf P w K mg base N qual scope f cdv Aw outer s H [(s1.heap.objs.size, go)]) ps2 (start N vs) H s2 := Inv.wish (Inv.pinnedG I2 fun p hp => by
      rcases List.mem_append.mp hp with hp | hp
      · rw [List.mem_singleton.mp hp]
        exact ⟨hea, I1.hok.fresh (Nat.le_refl _), Nat.ne_of_gt lt1, I1.nofs (Nat.le_refl _), hgd⟩
      · obtain ⟨z1, z2, z3⟩ := hps p hp
        have z2 : (s1.heap.push go).objs.size ≤ p.1 := z2
        rw [Heap.size_push] at z2
        have z4 : s1.heap.objs.size ≤ p.1 := Nat.le_of_succ_le z2
        exact ⟨z1, I1.hok.fresh z4, Nat.ne_of_gt (Nat.lt_of_lt_of_le lt1 z4), I1.nofs z4, z3⟩) _
    show SegQ _ Aw _ (.func body _) _ [] s2
    subst hbd
    refine segq_func (execs_append_wrap ?_)
    refine segq_wrap ?_
    rw [over_func]
    refine wpAny_mono (hpre.run ps2 s2 _ H _ I3 hq) (fun fl s3 h3 => ?_) fun _ _ z => z.elim
    cases fl with
    | brk => obtain ⟨_, _, _, z⟩ := h3; exact z.elim
    | cont => obtain ⟨_, _, _, z⟩ := h3; exact z.elim
    | ret u => obtain ⟨_, _, _, _, _, z⟩ := h3; exact z.elim
    | next =>
    obtain ⟨σ3, H3, J3, q3⟩ := h3
    show SegQ _ Aw _ _ ((execs [_] _).wrap _ _ id id) [] s3
    rw [execs_cons_wrap]
    refine segq_For ?_ (hs _)
    rw [over_func]
    refine wpAny_mono (hit.run ps2 s3 σ3 H3 _ J3 q3) (fun u s4 h4 => ?_) fun _ _ z => z.elim
    obtain ⟨v, H4, J4, rv, l, xs, rfl, hl4, hQ⟩ := h4
    obtain rfl : u = Value.ref l := rv
    obtain ⟨hz, its, nn, hvals, hobj⟩ := J4.hok l _ hl4
    have hls : s4.heap.IsList l its.toArray := ⟨_, hobj, rfl, nn, rfl⟩
    refine wpAny_pyIter_list hls ?_
    have hpu : ∀ b o, s4.heap.get? b = some o → (s4.heap.push { cls := .type "list_iterator", data := .fields #[.ref l, .int 0 0] }).get? b = some o := fun b o e => Heap.get?_push_of_some _ e
    obtain ⟨m4, hns4, _⟩ := J4.loc
    have g4 := J4.pin (s1.heap.objs.size, go) (List.mem_append_left _ (List.mem_singleton.mpr rfl))
    have hst : TailSt s.heap.objs.size s4.heap.objs.size l its.toArray 0 (s4.heap.push { cls := .type "list_iterator", data := .fields #[.ref l, .int 0 0] }) :=
      ⟨⟨m4, hns4.at' fun o e => hpu _ o e⟩, ⟨_, Heap.get?_push_size _ rfl, rfl, rfl⟩, hls.at fun o e => hpu _ o e⟩
    have fresh4 : H4 s4.heap.objs.size = none := J4.hok.fresh (Nat.le_refl _)
    have hlf : ∀ b o, s.heap.get? b = some o → H b = none → b ≠ l := fun b o e n z => by
      have := J4.base.free b o e n (show b ∉ ([] : List Addr) by simp)
      rw [z, hl4] at this
      cases this
    have good : TGood P w outer H s s1.heap.objs.size s1.gens.size ps2 Q ⟨s.heap.objs.size, s4.heap.objs.size, l, its.toArray, { s4 with heap := s4.heap.push { cls := .type "list_iterator", data := .fields #[.ref l, .int 0 0] } }⟩ (era H4 l) xs := by
      have en : ∀ b, H4 b = none → era H4 l b = none := fun b e => by
        by_cases z : b = l
        · rw [z]; exact era_same
        · rw [era_ne z]; exact e
      refine ⟨by simpa using hvals, hz, J4.os, J4.bare, (J4.base.era hl4).trans (Un.kept hpu), (J4.hok.era hl4).kept hpu, fun b hb => ?_, era_same, hlf, ⟨Nat.ne_of_gt lt1, Nat.ne_of_lt (Heap.lt_size g4.1)⟩, hgen _ (hpu _ _ g4.1), fun p hp => ?_, hst, hQ⟩
      · simp only [List.mem_cons, List.mem_nil_iff, or_false] at hb
        rcases hb with rfl | rfl | rfl
        · exact ⟨Nat.le_refl _, en _ J4.free⟩
        · exact ⟨J4.sz, en _ fresh4⟩
        · exact ⟨sz1, en _ g4.2.1⟩
      · obtain ⟨z1, z2, z3, _⟩ := J4.pin p (List.mem_append_right _ hp)
        exact ⟨hpu _ _ z1, en _ z2, z3, Nat.ne_of_lt (Heap.lt_size z1), fun y => by rw [show p.1 = l from y, hl4] at z2; cases z2⟩
    refine segq_of (R := TR s.heap.objs.size s4.heap.objs.size) (Y := TY s.heap.objs.size s4.heap.objs.size l its.toArray) (n := its.toArray.size) (s₀ := { s4 with heap := s4.heap.push { cls := .type "list_iterator", data := .fields #[.ref l, .int 0 0] } }) (seg_call fun p => ?_) fun e s' he => ⟨_, _, _, good, he⟩
    refine seg_tail (env := envOfC qual scope s.heap.objs.size f cdv) rfl S.kind hx hxd S.co ?_ rfl rfl ?_ (fun s₀ s5 kb => ?_) _ 0 _ _ (Nat.zero_add _) hst .refl
    · show (scope.kind == .module && _) = false
      rw [S.kind]; rfl
    · exact hrw.hd
    · exact seg_end (.ok (.ret .none)) ⟨rfl, rfl, kb⟩
  exact main _ _ _ _ rfl rfl rfl fun h => Heap.get?_push_size _ rfl
end L2
set_option Elab.async false
set_option linter.all false
set_option maxRecDepth 100000
set_option maxHeartbeats 2000000
/-! GenLoop: for over a generator. -/
namespace L2
open PySem PySem.Spec PyProof.Rows GenW
open Sem (wp)
theorem wpAny_put {α : Type} {M : Model} {A : Around} {D : Nat → Option GenState} {s : Shared} {t : Sem α} {Q : α → Shared → Prop} {E : Value → Shared → Prop} (c : Clean s) (d : Held D s) (h : wpAny M A t Q E s) :
    wpAny M A t (fun a s' => Put D (Q a) s') (fun e s' => Put D (E e) s') (put D s) := fun Γ p hΓ => wp_put M Γ D t _ _ p s c d (h Γ p hΓ)
def GoesQ (M : Model) (A : Around) (Φ : End → Shared → Prop) (gs : GenState) (s : Shared) : Prop := match gs with
  | .fresh c => SegQ M A Φ c (M.den c) [] s
  | .suspended k _ c _ fs _ => SegQ M A Φ c (k (.send .none)) fs s
  | _ => False
theorem wpAny_resumeX {M : Model} {A : Around} {Φ : End → Shared → Prop} {E : Value → Shared → Prop} {s : Shared} {g : Nat} {gs : GenState} {l : List Value} {α : Type} {k : GenResult → Sem α} {Q : α → Shared → Prop} (hg : s.gens[g]? = some gs)
    (hgo : GoesQ M A Φ gs (s.setGen g .running)) (h : ∀ e s₁, Φ e s₁ → e.quiet = true ∧ wpAny M A (k e.result) Q E (s₁.setGen g e.genState)) : wpAny M A (.resume g (.send .none) l k) Q E s := by
  intro Γ p hΓ
  rw [Sem.wp_resume]
  have hB : ∀ c, (Γ.wake c p).Woken A := fun c => hΓ.wake c p
  cases gs with
  | fresh c =>
    obtain ⟨e₁, s₁, hr, he⟩ := hgo (Γ.wake c p) p rfl (hB c)
    exact ⟨_, _, by unfold Wakes; rw [hg]; exact ⟨e₁, s₁, hr, (h e₁ s₁ he).1, rfl, rfl⟩, (h e₁ s₁ he).2 Γ p hΓ⟩
  | suspended k₀ l₀ c₀ p₀ fs₀ cl =>
    obtain ⟨e₁, s₁, hr, he⟩ := hgo (Γ.wake c₀ p) p₀ rfl (hB c₀)
    exact ⟨_, _, by unfold Wakes; rw [hg]; exact ⟨e₁, s₁, hr, (h e₁ s₁ he).1, rfl, rfl⟩, (h e₁ s₁ he).2 Γ p hΓ⟩
  | running => exact hgo.elim
  | finished => exact hgo.elim
theorem next_Φ {P : Program} {w : World} {A : Around} {E : Value → Shared → Prop} {s : Shared} {a : Addr} {g : Nat} {gs : GenState} {Φ : End → Shared → Prop} {Q : Option Value → Shared → Prop} (hh : A.handled = none)
    (hl : s.heap.NoLimit) (hroom : A.depth < recursionLimit) (hg : s.heap.IsGen a g) (hgs : s.gens[g]? = some gs) (hgo : GoesQ (model P w) A.in1 Φ gs (s.setGen g .running))
    (hY : ∀ v gd lv k c p fs s₁, Φ (.susp v gd lv k c p fs) s₁ → (End.susp v gd lv k c p fs).quiet = true ∧ Q (some v) (s₁.setGen g (End.susp v gd lv k c p fs).genState))
    (hR : ∀ x s₁, Φ (.ret x) s₁ → x = .ok (.ret .none) ∧ ∀ h', (∀ b o, s₁.heap.get? b = some o → h'.get? b = some o) → Q none { s₁.setGen g .finished with heap := h' }) : wpAny (model P w) A (pyNext (.ref a)) Q E s := by
  unfold pyNext
  refine wpAny_bind (wpAny_attempt (wpAny_callSpecial?_slot (name := Str.ofString "__next__") hg.typeIs slot_gen_next
    (wpAny_call_entry slot_gen_next hg.typeIs entry_gen_next ?_ (args_gen_next _))))
  show wpAny _ A.in1 (Builtin.Generator.genWake (.ref a) (.send .none)) _ _ s
  unfold Builtin.Generator.genWake
  refine wpAny_bind (wpAny_holding (wpAny_genNumber hg (wpAny_bind (wpAny_genState hgs ?_))))
  cases gs with
  | running => exact hgo.elim
  | finished => exact hgo.elim
  | _ =>
    refine wpAny_bind (wpAny_roomToWake hl hroom ?_)
    show wpAny _ A.in1 (.resume g (.send .none) [] _) _ _ s
    refine wpAny_resumeX hgs hgo fun e s₁ he => ?_
    cases e with
    | susp v gd lv k c p fs =>
      obtain ⟨q1, q2⟩ := hY v gd lv k c p fs s₁ he
      exact ⟨q1, wpAny_pure ⟨v, rfl, wpAny_pure q2⟩⟩
    | ret x =>
      obtain ⟨rfl, q2⟩ := hR x s₁ he
      refine ⟨rfl, ?_⟩
      have hres : End.result (.ret (.ok (.ret Value.none))) = .returned .none := rfl
      first | rw [hres] | simp only [hres]
      show wpAny _ A.in1 (newExc (.type "StopIteration") [] >>= _) _ _ _
      refine wpAny_bind ?_
      simp only [newExc, newTuple]
      refine wpAny_bind (wpAny_newObj_type ?_ (by size_fits))
      refine wpAny_bind (m := firstArgMember _ _) (wpAny_of_eq (a := Value.none) (by first | rfl | (simp only [firstArgMember]; rfl)) ?_)
      refine wpAny_newObj_type ?_ (by size_fits)
      simp only [raiseNew]
      refine wpAny_bind (wpAny_bind (wpAny_handled ?_))
      first | rw [show A.in1.handled = none from hh] | rw [hh]
      refine wpAny_throw ?_
      refine wpAny_bind (wpAny_isInstance (T := "StopIteration") (b := true) ⟨_, Heap.get?_push_size _ rfl, rfl⟩ isSubtype_stop ?_)
      exact wpAny_pure (q2 _ fun b o hb => Heap.get?_push_of_some _ (Heap.get?_push_of_some _ hb))
/-- an expression whose value is such a generator -/
structure PGenT (X : Cx) (k : Nat) (e : Expr) (tg : TGen) : Prop where
  run : ∀ (pins : List (Addr × Obj)) (s : Shared) (σ : L2.St) (H : Hp) (cont : List V → Hp → Prop), Inv X pins σ H s → tg σ H cont → wpAny (model X.prog X.w) X.A (eval e X.env)
    (fun u s' => ∃ H1 sc, Inv X pins σ H1 sc ∧ TMade X.prog X.w k X.stack H1 sc cont u s') X.xe s
def ItG (xs : List V) : It := ⟨fun i _ => i < xs.length, fun i H x H' => H' = H ∧ xs[i]? = some x, fun i _ => xs.length ≤ i⟩
def tItG (tg : TGen) : TI := fun σ H R => tg σ H fun xs H1 => R (ItG xs) H1
/-- at turn j -/
structure RunAt (P : Program) (w : World) (A : Around) (i : TInfo) (a : Addr) (g : Nat) (j : Nat) (s : Shared) : Prop where
  st : TailSt i.L i.it i.l i.items j s.heap
  gen : s.heap.IsGen a g
  go : ∃ gs, s.gens[g]? = some gs ∧ (∃ k l c p fs cl, gs = .suspended k l c p fs cl) ∧ ∀ s'', TailSt i.L i.it i.l i.items j s''.heap → gs.Goes (model P w) A (TR i.L i.it) (TY i.L i.it i.l i.items) (i.items.size - j) (.send .none) s''
section
variable {X : Cx} {pins : List (Addr × Obj)} {σ : L2.St} {H : Hp} {s s' : Shared}
/-- nothing but the generators' states has changed -/
theorem Inv.regen (I : Inv X pins σ H s) (e : s'.heap = s.heap) (o : s'.os = s.os) (b : AllBare s'.gens) : Inv X pins σ H s' :=
  I.call' (ch := []) o (Un.kept fun b o q => by rw [e]; exact q) (I.hok.kept fun b o q => by rw [e]; exact q) b fun b z => by simp at z
theorem Inv.keptBut {ps : List Addr} (I : Inv X pins σ H s) (hf : ∀ b ∈ ps, FpOk X pins H b) (o : s'.os = s.os) (b : AllBare s'.gens) (k : ∀ b o, b ∉ ps → s.heap.get? b = some o → s'.heap.get? b = some o) : Inv X pins σ H s' := by
  have nn : ∀ c u, H c = some u → c ∉ ps := fun c u e z => by rw [(hf c z).1] at e; cases e
  refine I.call' (ch := ps) o ⟨fun b o e n _ hx => k b o hx e, fun b o e n _ hx => ⟨o.slots, k b o hx e⟩, fun b o e n _ => n, fun b o e hx => ⟨o, k b o hx e⟩, fun b xs e => e, fun b o u e => e, fun b qs e => ⟨#[], by rw [e]; simp⟩⟩ (fun b u e => ?_) b fun b hb => ?_
  · refine (I.hok b u e).stay (fun c v hc q => k c v ?_ q) (fun _ q => q) fun _ _ q => q
    rcases hc with z | z
    · rw [z]; exact nn b u e
    · exact nn c _ z
  · obtain ⟨_, h1, h2, h3, h4, h5⟩ := hf b hb
    exact ⟨h3, h1, h4, h5⟩
end
theorem bare_frozen {s : Shared} (h : AllBare s.gens) : AllBare (frozen s).gens := fun y hy => by
  obtain ⟨x, hx, rfl⟩ := Array.mem_map.mp hy
  rw [bare_freeze]
  exact h x hx
theorem bare_put {s s1 : Shared} (h : AllBare s.gens) (h1 : AllBare s1.gens) (hd : Held (asleep s) s1) : AllBare (put (asleep s) s1).gens := fun y hy => by
  obtain ⟨i, hi, e⟩ := Array.mem_iff_getElem.mp hy
  have q : (put (asleep s) s1).gens[i]? = some y := by rw [Array.getElem?_eq_getElem hi, e]
  cases z : asleep s i with
  | none =>
    rw [put_none z] at q
    exact h1 y (Array.mem_of_getElem? q)
  | some x =>
    rw [put_some hd z] at q
    cases q
    exact asleep_bare h z
theorem tail_keep {L it l : Addr} {items : Array Value} {j : Nat} {h h' : Heap} (t : TailSt L it l items j h) (k : ∀ b ∈ [L, it, l], ∀ o, h.get? b = some o → h'.get? b = some o) : TailSt L it l items j h' := by
  obtain ⟨⟨m, hns⟩, ⟨o2, e3, e4, e5⟩, hls⟩ := t
  exact ⟨⟨m, hns.at' fun o e => k _ (by simp) o e⟩, ⟨o2, k _ (by simp) _ e3, e4, e5⟩, hls.at fun o e => k _ (by simp) o e⟩
theorem tail_obj {L it l : Addr} {items : Array Value} {j : Nat} {h : Heap} (t : TailSt L it l items j h) : ∀ b ∈ [L, it, l], ∃ o, h.get? b = some o ∧ ∀ v, o.data ≠ .cell v := by
  obtain ⟨⟨m, o, es, ep, e1, e2, _⟩, ⟨o2, e3, e4, e5⟩, ⟨o3, e6, e7, n8, e9⟩⟩ := t
  intro b hb
  simp only [List.mem_cons, List.mem_nil_iff, or_false] at hb
  rcases hb with rfl | rfl | rfl
  · exact ⟨o, e1, fun v z => by rw [e2] at z; cases z⟩
  · exact ⟨o2, e3, fun v z => by rw [e5] at z; cases z⟩
  · exact ⟨o3, e6, fun v z => by rw [e9] at z; cases z⟩
/-- the generator's own objects, in the consumer's sight -/
structure Own (X : Cx) (pins : List (Addr × Obj)) (i : TInfo) (a : Addr) : Prop where
  fp : ∀ b ∈ [i.L, i.it, a], ∀ H' : Hp, H' b = none → FpOk X pins H' b
  l : i.l ≠ X.env.locals ∧ i.l ∉ X.fs
  apart : a ≠ i.L ∧ a ≠ i.it
theorem body_turn {X : Cx} {pins : List (Addr × Obj)} {σ : L2.St} {H : Hp} {s4 : Shared} {i : TInfo} {a : Addr} {g j : Nat} {tgt : Expr} {body : List Stmt} {tg : TG} {tb : TS} {N : L2.St → Hp → Prop} {D : Ends} {x : V} {u : Value} {E' : Value → Shared → Prop}
    (hno : ∀ e s, ¬ X.xe e s) (hg : PG X tgt tg) (hb : PSs X body tb) (I : Inv X pins σ H s4) (O : Own X pins i a) (R : RunAt X.prog X.w X.A.in1 i a g j s4) (hn : ∀ b ∈ [i.L, i.it, i.l, a], H b = none) (r : RelV x u)
    (step : tg x σ H fun σ2 H2 => tb { D with nx := N, ct := N, bk := D.nx } σ2 H2) :
    wpAny (model X.prog X.w) X.A (assign tgt X.env u) (fun _ s5 => wpAny (model X.prog X.w) X.A (execs body X.env) (fun f s6 => match f with
      | .next | .cont => ∃ σ' H', N σ' H' ∧ Inv X pins σ' H' s6 ∧ RunAt X.prog X.w X.A.in1 i a g j s6 ∧ ∀ b ∈ [i.L, i.it, i.l, a], H' b = none
      | .brk => ∃ σ' H', Inv X pins σ' H' s6 ∧ D.nx σ' H'
      | .ret u => ∃ v σ' H', Inv X pins σ' H' s6 ∧ RelV v u ∧ D.rt v H') E' s5) E' s4 := by
  obtain ⟨gs, hgs, hsus, hgo⟩ := R.go
  obtain ⟨oa, nm, qn, ga, gb, gc, gd⟩ := id R.gen
  have obj : ∀ b ∈ [i.L, i.it, i.l, a], ∃ o, s4.heap.get? b = some o ∧ ∀ v, o.data ≠ .cell v := fun b hb => by
    rcases List.mem_append.mp (show b ∈ [i.L, i.it, i.l] ++ [a] from hb) with z | z
    · exact tail_obj R.st b z
    · rw [List.mem_singleton.mp z]
      exact ⟨oa, ga, fun v z => by rw [gc] at z; cases z⟩
  have I' : Inv X (pins ++ pinsAt [i.L, i.it, i.l, a] s4.heap) σ H s4 := I.pins_of fun p hp => (List.mem_append.mp hp).elim (fun z => I.pin p (List.mem_append_right _ z)) fun z => by
    obtain ⟨hb, e⟩ := of_pinsAt z
    obtain ⟨o, e', d⟩ := obj p.1 hb
    rw [e] at e'; cases e'
    have n1 := hn p.1 hb
    refine ⟨e, n1, ?_, ?_, d⟩
    · by_cases q : p.1 ∈ [i.L, i.it, a]
      · exact (O.fp p.1 q H n1).2.1
      · have : p.1 = i.l := by
          simp only [List.mem_cons, List.mem_nil_iff, or_false] at hb q
          rcases hb with h | h | h | h
          · exact absurd (.inl h) q
          · exact absurd (.inr (.inl h)) q
          · exact h
          · exact absurd (.inr (.inr h)) q
        rw [this]; exact O.l.1
    · by_cases q : p.1 ∈ [i.L, i.it, a]
      · exact (O.fp p.1 q H n1).2.2.1
      · have : p.1 = i.l := by
          simp only [List.mem_cons, List.mem_nil_iff, or_false] at hb q
          rcases hb with h | h | h | h
          · exact absurd (.inl h) q
          · exact absurd (.inr (.inl h)) q
          · exact h
          · exact absurd (.inr (.inr h)) q
        rw [this]; exact O.l.2
  have bare4 := I.bare
  have If : Inv X (pins ++ pinsAt [i.L, i.it, i.l, a] s4.heap) σ H (frozen s4) := I'.regen rfl rfl (bare_frozen bare4)
  refine wpAny_mono (wpAny_frozen (hg.run _ (frozen s4) σ H x u _ If r step)) (fun _ s5 h5 => ?_) fun e s5 ⟨_, _, _, _, z⟩ => absurd z (hno _ _)
  obtain ⟨s5', c5, d5, rfl, σ6, H6, I6, q6⟩ := h5
  refine wpAny_mono (wpAny_put c5 d5 (hb.run _ s5' σ6 H6 _ I6 q6)) (fun f s6 h6 => ?_) fun e s5 ⟨_, _, _, _, z⟩ => absurd z (hno _ _)
  obtain ⟨s6', c6, d6, rfl, sp⟩ := h6
  have back : ∀ {σ' : L2.St} {H' : Hp}, Inv X (pins ++ pinsAt [i.L, i.it, i.l, a] s4.heap) σ' H' s6' → Inv X pins σ' H' (put (asleep s4) s6') := fun {σ' H'} J => J.unpinned.regen rfl rfl (bare_put bare4 J.bare d6)
  have run : ∀ {σ' : L2.St} {H' : Hp}, Inv X (pins ++ pinsAt [i.L, i.it, i.l, a] s4.heap) σ' H' s6' → RunAt X.prog X.w X.A.in1 i a g j (put (asleep s4) s6') ∧ ∀ b ∈ [i.L, i.it, i.l, a], H' b = none := fun {σ' H'} J => by
    have kp : ∀ b ∈ [i.L, i.it, i.l, a], ∀ o, s4.heap.get? b = some o → s6'.heap.get? b = some o := fun b hb o e => (J.pin (b, o) (List.mem_append_right _ (List.mem_append_right _ (mem_pinsAt hb e)))).1
    refine ⟨⟨tail_keep R.st fun b hb o e => kp b (by simp only [List.mem_cons, List.mem_nil_iff, or_false] at hb ⊢; rcases hb with h | h | h <;> simp [h]) o e, ⟨oa, nm, qn, kp a (by simp) _ ga, gb, gc, gd⟩, gs, put_some d6 (asleep_at hgs hsus), hsus, hgo⟩, fun b hb => ?_⟩
    obtain ⟨o, e, _⟩ := obj b hb
    exact (J.pin (b, o) (List.mem_append_right _ (List.mem_append_right _ (mem_pinsAt hb e)))).2.1
  cases f with
  | next => obtain ⟨σ7, H7, J, n7⟩ := sp; exact ⟨σ7, H7, n7, back J, run J⟩
  | cont => obtain ⟨σ7, H7, J, n7⟩ := sp; exact ⟨σ7, H7, n7, back J, run J⟩
  | brk => obtain ⟨σ7, H7, J, n7⟩ := sp; exact ⟨σ7, H7, back J, n7⟩
  | ret v => obtain ⟨v7, σ7, H7, J, r7, n7⟩ := sp; exact ⟨v7, σ7, H7, back J, r7, n7⟩
/-- behind a stretch of the generator -/
theorem after_seg {X : Cx} {pins : List (Addr × Obj)} {σ : L2.St} {H : Hp} {s0 s1 : Shared} {i : TInfo} {a : Addr} {g j : Nat} {e : End} (I : Inv X pins σ H s0) (O : Own X pins i a) (hn : ∀ b ∈ [i.L, i.it, i.l, a], H b = none) (hg : s0.heap.IsGen a g) (hsz : j ≤ i.items.size)
    (he : SegEnd (TR i.L i.it) (TY i.L i.it i.l i.items) (i.items.size - j) (Seg.next (model X.prog X.w) X.A.in1 (TR i.L i.it) (TY i.L i.it i.l i.items) (i.items.size - j)) s0 e s1) :
    e.quiet = true ∧ Inv X pins σ H (s1.setGen g e.genState) ∧ match e with
      | .ret r => r = .ok (.ret .none) ∧ j = i.items.size
      | .susp v _ _ _ _ _ _ => i.items[j]? = some v ∧ (g < s1.gens.size → RunAt X.prog X.w X.A.in1 i a g (j + 1) (s1.setGen g e.genState)) := by
  have inv : KeptBut [i.L, i.it] s0 s1 → e.quiet = true → Inv X pins σ H (s1.setGen g e.genState) := fun kb hq => by
    have b1 : AllBare s1.gens := by rw [kb.gens]; exact I.bare
    exact (I.keptBut (s' := s1) (fun b hb => by
      simp only [List.mem_cons, List.mem_nil_iff, or_false] at hb
      rcases hb with rfl | rfl
      · exact O.fp _ (by simp) H (hn _ (by simp))
      · exact O.fp _ (by simp) H (hn _ (by simp))) kb.os b1 kb.keep).regen rfl rfl (allBare_setGen b1 (End.bare_of_quiet hq))
  cases e with
  | ret r =>
    obtain ⟨h1, h2, kb⟩ := he
    exact ⟨rfl, inv kb rfl, h2, by omega⟩
  | susp v gd lv k c p fs =>
    obtain ⟨hq, j', h1, h2, h3, kb, h4⟩ := he
    refine ⟨hq, inv kb hq, ?_⟩
    have hnz : i.items.size - j ≠ 0 := fun z => by
      have := h4 s1 h3
      rw [z] at this
      exact this
    obtain rfl : j' = j := by omega
    refine ⟨h2, fun hg2 => ⟨h3, ?_, ⟨_, setGen_at hg2, ⟨_, _, _, _, _, _, rfl⟩, fun s'' hs => ?_⟩⟩⟩
    · obtain ⟨oa, nm, qn, ga, gb, gc, gd⟩ := hg
      exact ⟨oa, nm, qn, kb.keep a oa (by simp [O.apart.1, O.apart.2]) ga, gb, gc, gd⟩
    · have := h4 s'' hs
      obtain ⟨m, hm⟩ : ∃ m, i.items.size - j' = m + 1 := ⟨i.items.size - j' - 1, by omega⟩
      rw [hm] at this
      rw [show i.items.size - (j' + 1) = m by omega]
      exact this
def Stage (X : Cx) (pins : List (Addr × Obj)) (a : Addr) (g : Nat) (D : Ends) (tg : TG) (tb : TS) (n : Nat) (s : Shared) : Prop :=
  ∃ (i : TInfo) (xs : List V) (W : Nat → Nat → L2.St → Hp → Prop) (j m : Nat) (σ : L2.St) (H : Hp), n + j = sizeLine + 1 ∧ Vals xs i.items.toList ∧ j ≤ xs.length ∧ xs.length ≤ sizeLine ∧ Own X pins i a ∧ (∀ b ∈ [i.L, i.it, i.l, a], H b = none) ∧ Inv X pins σ H s ∧ RunAt X.prog X.w X.A.in1 i a g j s ∧ W j m σ H ∧
    ∀ i m σ H, W i m σ H → ((ItG xs).stop i H ∧ D.nx σ H) ∨ ((ItG xs).go i H ∧ ∃ N : L2.St → Hp → Prop, (∀ σ' H', N σ' H' → ∃ m', m' < m ∧ W (i + 1) m' σ' H') ∧ ∀ x H', (ItG xs).yld i H x H' → tg x σ H' fun σ2 H2 => tb { D with nx := N, ct := N, bk := D.nx } σ2 H2)
theorem ps_forT {X : Cx} {k : Nat} {tgt iter : Expr} {body : List Stmt} {pos : Pos} {tgn : TGen} {tg : TG} {tb : TS} (hno : ∀ e s, ¬ X.xe e s) (hc : X.A.handled = none) (hr : Room (k + 1) X.A) (hi : PGenT X k iter tgn) (hg : PG X tgt tg) (hb : PSs X body tb)
    (hs : ∀ x, foldedSetIterable iter X.env x = pure x := by intro _; rfl) : PS X (.For tgt iter body [] pos) (tFor (tItG tgn) tg tb) := by
  refine ⟨fun pins s σ H D I h => ?_⟩
  refine wpAny_For (thn (hi.run pins s σ H _ I h) fun u s1 ⟨H1, sc, I1, made⟩ => ?_) hs
  obtain ⟨a, g, c, rfl, ha1, ha2, hga, hgs, hos, hba, hlim, hkp, wake⟩ := made
  refine wpAny_pyIter_gen hga ?_
  have dep : X.A.depth < recursionLimit := by have := hr.dp; omega
  -- the rest of a turn
  have rest : ∀ {i : TInfo} {xs : List V} {W : Nat → Nat → L2.St → Hp → Prop} {j m n : Nat} {σ : L2.St} {H : Hp} {e : End} {s1 : Shared} {E' : Value → Shared → Prop}, n + j = sizeLine + 1 → Vals xs i.items.toList → j ≤ xs.length → xs.length ≤ sizeLine → Own X pins i a → (∀ b ∈ [i.L, i.it, i.l, a], H b = none) →
      g < s1.gens.size → Inv X pins σ H (s1.setGen g e.genState) → W j m σ H →
      (∀ i m σ H, W i m σ H → ((ItG xs).stop i H ∧ D.nx σ H) ∨ ((ItG xs).go i H ∧ ∃ N : L2.St → Hp → Prop, (∀ σ' H', N σ' H' → ∃ m', m' < m ∧ W (i + 1) m' σ' H') ∧ ∀ x H', (ItG xs).yld i H x H' → tg x σ H' fun σ2 H2 => tb { D with nx := N, ct := N, bk := D.nx } σ2 H2)) →
      ∀ v gd lv k c p fs, e = .susp v gd lv k c p fs → i.items[j]? = some v → RunAt X.prog X.w X.A.in1 i a g (j + 1) (s1.setGen g e.genState) →
      wpAny (model X.prog X.w) X.A (letOwnedTupleGo tgt (.ref a) v) (fun _ s₁' => wpAny (model X.prog X.w) X.A (assign tgt X.env v) (fun _ s₂ => wpAny (model X.prog X.w) X.A (execs body X.env) (fun f s₃ => match f with
        | .next | .cont => ∃ m, m < n ∧ Stage X pins a g D tg tb m s₃
        | .brk => SP X pins D .next s₃
        | .ret v => SP X pins D (.ret v) s₃) E' s₂) E' s₁') E' (s1.setGen g e.genState) := by
    intro i xs W j m n σ H e s1 E' hnj hv hj hxl O hn hgsz I4 hw turn v gd lv k c p fs ee hiv R4
    obtain ⟨oa, nm, qn, ga, gb, gc, gd'⟩ := id R4.gen
    refine go_of ga gb gc (by decide) ?_
    have hjl : j < i.items.size := (Array.getElem?_eq_some_iff.mp hiv).1
    have hl : xs.length = i.items.size := by rw [← Array.length_toList]; exact hv.length
    obtain ⟨x, hx⟩ : ∃ x, xs[j]? = some x := ⟨xs[j]'(by omega), List.getElem?_eq_getElem (by omega)⟩
    obtain ⟨v', hv', rv⟩ := hv.get hx
    have : v' = v := by
      rw [Array.getElem?_toList] at hv'
      rw [hiv] at hv'
      exact (Option.some.inj hv').symm
    subst this
    rcases turn j m σ H hw with ⟨stop, _⟩ | ⟨_, N, hN, step⟩
    · exact absurd (show xs.length ≤ j from stop) (by omega)
    refine wpAny_mono (body_turn (N := N) (D := D) (E' := E') hno hg hb I4 O R4 hn rv (step x H ⟨rfl, hx⟩)) (fun _ s5 h5 => wpAny_mono h5 (fun f s6 h6 => ?_) fun _ _ z => z) fun _ _ z => z
    have again : (∃ σ' H', N σ' H' ∧ Inv X pins σ' H' s6 ∧ RunAt X.prog X.w X.A.in1 i a g (j + 1) s6 ∧ ∀ b ∈ [i.L, i.it, i.l, a], H' b = none) → ∃ m, m < n ∧ Stage X pins a g D tg tb m s6 := fun ⟨σ7, H7, n7, I7, R7, f7⟩ => by
      obtain ⟨m', _, w7⟩ := hN σ7 H7 n7
      exact ⟨n - 1, by omega, ⟨i, xs, W, j + 1, m', σ7, H7, by omega, hv, by omega, hxl, O, f7, I7, R7, w7, turn⟩⟩
    cases f with
    | next => exact again h6
    | cont => exact again h6
    | brk => exact h6
    | ret v => exact h6
  -- a turn, as the loop's rule wants it
  have conv : ∀ {n : Nat} {v : Value} {s4 : Shared} {E' : Value → Shared → Prop}, wpAny (model X.prog X.w) X.A (letOwnedTupleGo tgt (.ref a) v) (fun _ s₁' => wpAny (model X.prog X.w) X.A (assign tgt X.env v) (fun _ s₂ => wpAny (model X.prog X.w) X.A (execs body X.env) (fun f s₃ => match f with
        | .next | .cont => ∃ m, m < n ∧ Stage X pins a g D tg tb m s₃
        | .brk => SP X pins D .next s₃
        | .ret v => SP X pins D (.ret v) s₃) E' s₂) E' s₁') E' s4 →
      wpAny (model X.prog X.w) X.A (letOwnedTupleGo tgt (.ref a) v) (fun _ s₁' => wpAny (model X.prog X.w) X.A (assign tgt X.env v) (fun _ s₂ => wpAny (model X.prog X.w) X.A (execs body X.env) (fun f s₃ => match f with
        | .next | .cont => ∃ m, m < n ∧ ((m = sizeLine + 2 ∧ s₃ = s1) ∨ Stage X pins a g D tg tb m s₃)
        | .brk => SP X pins D .next s₃
        | .ret v => SP X pins D (.ret v) s₃) E' s₂) E' s₁') E' s4 := fun h => wpAny_mono h (fun _ _ h => wpAny_mono h (fun _ _ h => wpAny_mono h (fun f _ h => by
    cases f with
    | next => obtain ⟨m, h1, h2⟩ := h; exact ⟨m, h1, .inr h2⟩
    | cont => obtain ⟨m, h1, h2⟩ := h; exact ⟨m, h1, .inr h2⟩
    | brk => exact h
    | ret v => exact h) fun _ _ z => z) fun _ _ z => z) fun _ _ z => z
  have done : ∀ {xs : List V} {W : Nat → Nat → L2.St → Hp → Prop} {j m : Nat} {σ : L2.St} {H : Hp} {s4 : Shared} {E' : Value → Shared → Prop}, xs.length ≤ j → Inv X pins σ H s4 → W j m σ H →
      (∀ i m σ H, W i m σ H → ((ItG xs).stop i H ∧ D.nx σ H) ∨ ((ItG xs).go i H ∧ ∃ N : L2.St → Hp → Prop, (∀ σ' H', N σ' H' → ∃ m', m' < m ∧ W (i + 1) m' σ' H') ∧ ∀ x H', (ItG xs).yld i H x H' → tg x σ H' fun σ2 H2 => tb { D with nx := N, ct := N, bk := D.nx } σ2 H2)) →
      wpAny (model X.prog X.w) X.A (execs [] X.env) (fun f s₃ => SP X pins D f s₃) E' s4 := fun {xs W j m σ H s4 E'} hj I4 hw turn => by
    rcases turn j m σ H hw with ⟨_, q⟩ | ⟨go, _⟩
    · exact wpAny_execs_nil ⟨σ, H, I4, q⟩
    · exact absurd (show j < xs.length from go) (by omega)
  have ext : ∀ {σ : L2.St} {H : Hp} {s4 : Shared} {h' : Heap}, Inv X pins σ H s4 → (∀ b o, s4.heap.get? b = some o → h'.get? b = some o) → Inv X pins σ H { s4 with heap := h' } := fun {σ H s4 h'} I4 hk =>
    I4.call' (s' := { s4 with heap := h' }) (ch := []) rfl (Un.kept hk) (I4.hok.kept hk) I4.bare fun b z => by simp at z
  refine codeAny_forLoop_any (fun n s' => (n = sizeLine + 2 ∧ s' = s1) ∨ Stage X pins a g D tg tb n s') ?_ (sizeLine + 2) (.inl ⟨rfl, rfl⟩)
  rintro n s3 (⟨rfl, e3⟩ | st)
  · -- the first turn
    subst e3
    have hgsz : g < s3.gens.size := (Array.getElem?_eq_some_iff.mp hgs).1
    have known : ∀ {i : TInfo} {H2 : Hp} {xs : List V}, TGood X.prog X.w X.stack H1 sc a g [] (fun xs H1 => ∃ W : Nat → Nat → L2.St → Hp → Prop, (∃ m, W 0 m σ H1) ∧ ∀ i m σ H, W i m σ H → ((ItG xs).stop i H ∧ D.nx σ H) ∨ ((ItG xs).go i H ∧ ∃ N : L2.St → Hp → Prop, (∀ σ' H', N σ' H' → ∃ m', m' < m ∧ W (i + 1) m' σ' H') ∧ ∀ x H', (ItG xs).yld i H x H' → tg x σ H' fun σ2 H2 => tb { D with nx := N, ct := N, bk := D.nx } σ2 H2)) i H2 xs →
        Inv X pins σ H2 i.mid ∧ Own X pins i a ∧ ∀ b ∈ [i.L, i.it, i.l, a], H2 b = none := fun {i H2 xs} good => by
      refine ⟨I1.call' (ch := []) good.os good.un good.ok good.bare fun b z => by simp at z, ⟨fun b hb H' hn => I1.fpOk (good.young b hb).1 hn, ⟨fun z => ?_, fun hm => ?_⟩, good.apart⟩, fun b hb => ?_⟩
      · obtain ⟨m, ⟨o, es, ep, e1, _⟩, _⟩ := I1.loc
        exact good.lf _ o e1 I1.free z.symm
      · obtain ⟨_, o₀, e₀, _⟩ := I1.ok.funs.mem hm
        have hx : i.l ∉ X.ex := fun z => I1.ok.exfs _ z hm
        obtain ⟨sl, e1⟩ := I1.base.slot _ o₀ e₀ (I1.ok.frf _ hm) hm hx
        exact good.lf _ _ e1 (I1.base.free _ o₀ e₀ (I1.ok.frf _ hm) hx) rfl
      · simp only [List.mem_cons, List.mem_nil_iff, or_false] at hb
        rcases hb with rfl | rfl | rfl | rfl
        · exact (good.young _ (by simp)).2
        · exact (good.young _ (by simp)).2
        · exact good.ln
        · exact (good.young _ (by simp)).2
    have wk := wake X.A.in1 (s3.setGen g .running) [] (hr.in1) I1.ok.frames (fun _ _ e => e) hos (allBare_setGen hba rfl) fun p hp => by simp at hp
    have wk' : GoesQ (model X.prog X.w) X.A.in1 (TEnd X.prog X.w X.A.in1 X.stack H1 sc a g [] (fun xs H1 => ∃ W : Nat → Nat → L2.St → Hp → Prop, (∃ m, W 0 m σ H1) ∧ ∀ i m σ H, W i m σ H → ((ItG xs).stop i H ∧ D.nx σ H) ∨ ((ItG xs).go i H ∧ ∃ N : L2.St → Hp → Prop, (∀ σ' H', N σ' H' → ∃ m', m' < m ∧ W (i + 1) m' σ' H') ∧ ∀ x H', (ItG xs).yld i H x H' → tg x σ H' fun σ2 H2 => tb { D with nx := N, ct := N, bk := D.nx } σ2 H2))) (.fresh c) (s3.setGen g .running) := wk
    refine wpAny_gsz (n := g + 1) hgsz (next_Φ hc hlim dep hga hgs wk' (fun v gd lv k c p fs s₁ he => ?_) fun x s₁ he => ?_)
    · obtain ⟨i, H2, xs, good, he⟩ := he
      obtain ⟨I2, O, hn⟩ := known good
      obtain ⟨W, ⟨m, w0⟩, turn⟩ := good.q
      obtain ⟨q1, q2, q3, q4⟩ := after_seg (j := 0) I2 O hn good.gen (Nat.zero_le _) he
      refine ⟨q1, fun hsz => conv ?_⟩
      rw [setGen_size] at hsz
      have := rest (n := sizeLine + 1) (E' := notedBy (model X.prog X.w) X.A X.env fun e s' => cameBackBy (model X.prog X.w) X.A X.env X.xe e s') rfl good.vals (Nat.zero_le _) good.len O hn (by omega) q2 w0 turn v gd lv k c p fs rfl q3 (q4 (by omega))
      exact wpAny_mono this (fun _ _ h => wpAny_mono h (fun _ _ h => wpAny_mono h (fun f _ h => by
        cases f with
        | next => obtain ⟨m, h1, h2⟩ := h; exact ⟨m, by omega, h2⟩
        | cont => obtain ⟨m, h1, h2⟩ := h; exact ⟨m, by omega, h2⟩
        | brk => exact h
        | ret v => exact h) fun _ _ z => z) fun _ _ z => z) fun _ _ z => z
    · obtain ⟨i, H2, xs, good, he⟩ := he
      obtain ⟨I2, O, hn⟩ := known good
      obtain ⟨W, ⟨m, w0⟩, turn⟩ := good.q
      obtain ⟨q1, q2, q3, q4⟩ := after_seg (j := 0) I2 O hn good.gen (Nat.zero_le _) he
      have hl : xs.length = i.items.size := by rw [← Array.length_toList]; exact good.vals.length
      exact ⟨q3, fun h' hk hsz => done (by omega) (ext q2 hk) w0 turn⟩
  · -- another turn
    obtain ⟨i, xs, W, j, m, σ3, H3, hnj, hv, hj, hxl, O, hn, I3, R3, hw, turn⟩ := st
    obtain ⟨gs, hgs3, hsus, hgo⟩ := R3.go
    have hl : xs.length = i.items.size := by rw [← Array.length_toList]; exact hv.length
    have hgsz : g < s3.gens.size := (Array.getElem?_eq_some_iff.mp hgs3).1
    have I0 : Inv X pins σ3 H3 (s3.setGen g .running) := I3.regen rfl rfl (allBare_setGen I3.bare rfl)
    refine wpAny_gsz (n := g + 1) hgsz (next_Φ (Φ := fun e s1 => SegEnd (TR i.L i.it) (TY i.L i.it i.l i.items) (i.items.size - j) (Seg.next (model X.prog X.w) X.A.in1 (TR i.L i.it) (TY i.L i.it i.l i.items) (i.items.size - j)) (s3.setGen g .running) e s1) hc I3.nolimit dep R3.gen hgs3 ?_ (fun v gd lv k c p fs s₁ he => ?_) fun x s₁ he => ?_)
    · obtain ⟨_, _, _, _, _, _, rfl⟩ := hsus
      exact segq_of (hgo (s3.setGen g .running) R3.st) fun _ _ z => z
    · obtain ⟨q1, q2, q3, q4⟩ := after_seg I0 O hn R3.gen (by omega) he
      refine ⟨q1, fun hsz => conv ?_⟩
      rw [setGen_size] at hsz
      exact rest hnj hv hj hxl O hn (by omega) q2 hw turn v gd lv k c p fs rfl q3 (q4 (by omega))
    · obtain ⟨q1, q2, q3, q4⟩ := after_seg I0 O hn R3.gen (by omega) he
      exact ⟨q3, fun h' hk hsz => done (by omega) (ext q2 hk) hw turn⟩
end L2
set_option Elab.async false
set_option linter.all false
set_option maxRecDepth 100000
set_option maxHeartbeats 2000000
/-! GenListT: list(g). -/
namespace L2
open PySem PySem.Spec PyProof.Rows GenW
/-- what a wake leaves of the state, by the stretch's end -/
theorem step_seg {P : Program} {w : World} {A : Around} {s0 s1 : Shared} {i : TInfo} {a : Addr} {g j : Nat} {e : End} (hap : a ≠ i.L ∧ a ≠ i.it) (hg : s0.heap.IsGen a g) (hb : AllBare s0.gens) (hsz : j ≤ i.items.size)
    (he : SegEnd (TR i.L i.it) (TY i.L i.it i.l i.items) (i.items.size - j) (Seg.next (model P w) A (TR i.L i.it) (TY i.L i.it i.l i.items) (i.items.size - j)) s0 e s1) :
    e.quiet = true ∧ KeptBut [i.L, i.it] s0 s1 ∧ AllBare (s1.setGen g e.genState).gens ∧ match e with
      | .ret r => r = .ok (.ret .none) ∧ j = i.items.size
      | .susp v _ _ _ _ _ _ => i.items[j]? = some v ∧ (g < s1.gens.size → RunAt P w A i a g (j + 1) (s1.setGen g e.genState)) := by
  have bare : KeptBut [i.L, i.it] s0 s1 → e.quiet = true → AllBare (s1.setGen g e.genState).gens := fun kb hq => allBare_setGen (by rw [kb.gens]; exact hb) (End.bare_of_quiet hq)
  cases e with
  | ret r =>
    obtain ⟨h1, h2, kb⟩ := he
    exact ⟨rfl, kb, bare kb rfl, h2, by omega⟩
  | susp v gd lv k c p fs =>
    obtain ⟨hq, j', h1, h2, h3, kb, h4⟩ := he
    refine ⟨hq, kb, bare kb hq, ?_⟩
    have hnz : i.items.size - j ≠ 0 := fun z => by
      have := h4 s1 h3
      rw [z] at this
      exact this
    obtain rfl : j' = j := by omega
    refine ⟨h2, fun hg2 => ⟨h3, ?_, ⟨_, setGen_at hg2, ⟨_, _, _, _, _, _, rfl⟩, fun s'' hs => ?_⟩⟩⟩
    · obtain ⟨oa, nm, qn, ga, gb, gc, gd⟩ := hg
      exact ⟨oa, nm, qn, kb.keep a oa (by simp [hap.1, hap.2]) ga, gb, gc, gd⟩
    · have := h4 s'' hs
      obtain ⟨m, hm⟩ : ∃ m, i.items.size - j' = m + 1 := ⟨i.items.size - j' - 1, by omega⟩
      rw [hm] at this
      rw [show i.items.size - (j' + 1) = m by omega]
      exact this
section
variable {P : Program} {w : World} {A : Around} {R : Result → Shared → Prop} {S a : Addr} {g : Nat} {res : Value}
theorem ext_turn {s : Shared} {gs : GenState} {Φ : End → Shared → Prop} (hh : A.handled = none) (hd : A.depth < recursionLimit) (hg : s.heap.IsGen a g) (hl : s.heap.NoLimit) (hgs : s.gens[g]? = some gs) (hgo : GoesQ (model P w) A.in1.in1 Φ gs (s.setGen g .running))
    (hY : ∀ v gd lv k c p fs s₁, Φ (.susp v gd lv k c p fs) s₁ → (End.susp v gd lv k c p fs).quiet = true ∧ ∃ acc c', s₁.heap.get? S = some (lstObj acc c') ∧ acc.size < sizeLine ∧
      (g < s₁.gens.size → codeAny (model P w) A (.builtin "list.extend.loop" ⟨[.ref S, .ref a, res], []⟩) R { s₁.setGen g (End.susp v gd lv k c p fs).genState with heap := s₁.heap.update S (Obj.mapSeq (·.push v)) }))
    (hR : ∀ x s₁, Φ (.ret x) s₁ → x = .ok (.ret .none) ∧ ∀ h', (∀ b o, s₁.heap.get? b = some o → h'.get? b = some o) → R (.ok (.ret res)) { s₁.setGen g .finished with heap := h' }) :
    codeAny (model P w) A (.builtin "list.extend.loop" ⟨[.ref S, .ref a, res], []⟩) R s := by
  have hgl : g < s.gens.size := (Array.getElem?_eq_some_iff.mp hgs).1
  refine codeAny_builtin F.entry_extend_loop ?_
  rw [Around.under_plainId F.plain_extend_loop _]
  show wpAny _ A.in1 (pyNext (.ref a) >>= _) _ _ s
  refine wpAny_bind (wpAny_gsz (n := g + 1) hgl (next_Φ (A := A.in1) hh hl hd hg hgs hgo (fun v gd lv k c p fs s₁ he => ?_) fun x s₁ he => ?_))
  · obtain ⟨q1, acc, c', hS, hsz, q2⟩ := hY v gd lv k c p fs s₁ he
    refine ⟨q1, fun hsz2 => ?_⟩
    rw [setGen_size] at hsz2
    show wpAny _ A.in1 (updateSeq S (·.push v) >>= _) _ _ _
    refine wpAny_bind ?_
    refine wpAny_updateSeq (s := s₁.setGen g (End.susp v gd lv k c p fs).genState) hS rfl (wpAny_pure ⟨plainId_quiet F.plain_extend_loop _, q2 (by omega)⟩) (Nat.le_of_lt hsz) (by show (acc.push v).size ≤ sizeLine + 1; rw [Array.size_push]; omega)
  · obtain ⟨q1, q2⟩ := hR x s₁ he
    exact ⟨q1, fun h' hk hsz2 => wpAny_pure (q2 h' hk)⟩
/-- behind a stretch -/
theorem drain_rest {i : TInfo} {mid : Shared} (hSa : S ≠ a) (hS3 : S ≠ i.L ∧ S ≠ i.it ∧ S ≠ i.l) (hap : a ≠ i.L ∧ a ≠ i.it) (hz : i.items.size ≤ sizeLine)
    (hend : ∀ s' c, s'.heap.get? S = some (lstObj i.items c) → s'.os = mid.os → AllBare s'.gens → (∀ b o, b ∉ [i.L, i.it, S] → mid.heap.get? b = some o → s'.heap.get? b = some o) → R (.ok (.ret res)) s') :
    ∀ (j : Nat) (s0 s1 : Shared) (acc : Array Value) (c : Nat) (e : End), j ≤ i.items.size → s0.heap.IsGen a g → AllBare s0.gens → s0.os = mid.os → (∀ b o, b ∉ [i.L, i.it, S] → mid.heap.get? b = some o → s0.heap.get? b = some o) → s0.heap.get? S = some (lstObj acc c) → acc.toList = i.items.toList.take j →
      (∀ (s : Shared) (acc : Array Value) (c : Nat), j + 1 ≤ i.items.size → RunAt P w A.in1.in1 i a g (j + 1) s → AllBare s.gens → s.os = mid.os → (∀ b o, b ∉ [i.L, i.it, S] → mid.heap.get? b = some o → s.heap.get? b = some o) → s.heap.get? S = some (lstObj acc c) → acc.toList = i.items.toList.take (j + 1) →
        codeAny (model P w) A (.builtin "list.extend.loop" ⟨[.ref S, .ref a, res], []⟩) R s) →
      SegEnd (TR i.L i.it) (TY i.L i.it i.l i.items) (i.items.size - j) (Seg.next (model P w) A.in1.in1 (TR i.L i.it) (TY i.L i.it i.l i.items) (i.items.size - j)) s0 e s1 →
      match e with
      | .ret x => x = .ok (.ret .none) ∧ ∀ h', (∀ b o, s1.heap.get? b = some o → h'.get? b = some o) → R (.ok (.ret res)) { s1.setGen g .finished with heap := h' }
      | .susp v gd lv k c p fs => (End.susp v gd lv k c p fs).quiet = true ∧ ∃ acc c', s1.heap.get? S = some (lstObj acc c') ∧ acc.size < sizeLine ∧
        (g < s1.gens.size → codeAny (model P w) A (.builtin "list.extend.loop" ⟨[.ref S, .ref a, res], []⟩) R { s1.setGen g (End.susp v gd lv k c p fs).genState with heap := s1.heap.update S (Obj.mapSeq (·.push v)) }) := by
  intro j s0 s1 acc c e hj hg hb ho hk hS hacc next he
  obtain ⟨hq, kb, hb1, hm⟩ := step_seg hap hg hb hj he
  have hS1 : s1.heap.get? S = some (lstObj acc c) := kb.keep S _ (by simp [hS3.1, hS3.2.1]) hS
  have hk1 : ∀ b o, b ∉ [i.L, i.it, S] → mid.heap.get? b = some o → s1.heap.get? b = some o := fun b o hn e => kb.keep b o (fun z => hn (by simp only [List.mem_cons, List.mem_nil_iff, or_false] at z ⊢; rcases z with z | z <;> simp [z])) (hk b o hn e)
  have hsize : acc.size = j := by
    have := congrArg List.length hacc
    rw [List.length_take, Array.length_toList, Array.length_toList] at this
    omega
  cases e with
  | ret r =>
    obtain ⟨h1, h2⟩ := hm
    refine ⟨h1, fun h' hk' => ?_⟩
    have hall : acc = i.items := by
      apply Array.toList_inj.mp
      rw [hacc, h2, ← Array.length_toList, List.take_length]
    rw [hall] at hS1
    exact hend _ c (hk' _ _ hS1) (kb.os.trans ho) hb1 fun b o hn e => hk' b o (hk1 b o hn e)
  | susp v gd lv k c0 p fs =>
    obtain ⟨h1, h2⟩ := hm
    have hjl : j < i.items.size := (Array.getElem?_eq_some_iff.mp h1).1
    refine ⟨hq, acc, c, hS1, by omega, fun hgs => ?_⟩
    have RA := h2 hgs
    have kS : ∀ b o, b ≠ S → s1.heap.get? b = some o → (s1.heap.update S (Obj.mapSeq (·.push v))).get? b = some o := fun b o hbS e => (Heap.get?_update_other _ _ (Ne.symm hbS)).trans e
    obtain ⟨oa, nm, qn, ga, gb, gc, gd'⟩ := RA.gen
    refine next _ (acc.push v) _ (by omega) ⟨tail_keep RA.st fun b hb o e => kS b o (fun z => ?_) e, ⟨oa, nm, qn, kS a _ (Ne.symm hSa) ga, gb, gc, gd'⟩, RA.go⟩ hb1 (kb.os.trans ho) (fun b o hn e => kS b o (fun z => hn (by rw [z]; simp)) (hk1 b o hn e)) (Heap.get?_update_self _ hS1 rfl) ?_
    · subst z
      simp only [List.mem_cons, List.mem_nil_iff, or_false] at hb
      rcases hb with z | z | z
      · exact hS3.1 z
      · exact hS3.2.1 z
      · exact hS3.2.2 z
    · rw [Array.toList_push, hacc, List.take_add_one]
      congr 1
      rw [← Array.getElem?_toList] at h1
      rw [h1]
      rfl
theorem drain_run {i : TInfo} {mid : Shared} (hh : A.handled = none) (hd : A.depth < recursionLimit) (hSa : S ≠ a) (hS3 : S ≠ i.L ∧ S ≠ i.it ∧ S ≠ i.l) (hap : a ≠ i.L ∧ a ≠ i.it) (hlim : ∀ h : Heap, (∀ b o, b ∉ [i.L, i.it, S] → mid.heap.get? b = some o → h.get? b = some o) → h.NoLimit) (hz : i.items.size ≤ sizeLine)
    (hend : ∀ s' c, s'.heap.get? S = some (lstObj i.items c) → s'.os = mid.os → AllBare s'.gens → (∀ b o, b ∉ [i.L, i.it, S] → mid.heap.get? b = some o → s'.heap.get? b = some o) → R (.ok (.ret res)) s') :
    ∀ (r j : Nat) (s : Shared) (acc : Array Value) (c : Nat), j + r = i.items.size → RunAt P w A.in1.in1 i a g j s → AllBare s.gens → s.os = mid.os → (∀ b o, b ∉ [i.L, i.it, S] → mid.heap.get? b = some o → s.heap.get? b = some o) → s.heap.get? S = some (lstObj acc c) → acc.toList = i.items.toList.take j →
      codeAny (model P w) A (.builtin "list.extend.loop" ⟨[.ref S, .ref a, res], []⟩) R s := by
  have rest := drain_rest (P := P) (w := w) (A := A) (g := g) (R := R) (res := res) (mid := mid) hSa hS3 hap hz hend
  intro r
  induction r with
  | zero =>
    intro j s acc c hj RA hb ho hk hS hacc
    obtain ⟨gs, hgs, ⟨_, _, _, _, _, _, rfl⟩, hgo⟩ := RA.go
    refine ext_turn (Φ := fun e s1 => SegEnd (TR i.L i.it) (TY i.L i.it i.l i.items) (i.items.size - j) (Seg.next (model P w) A.in1.in1 (TR i.L i.it) (TY i.L i.it i.l i.items) (i.items.size - j)) (s.setGen g .running) e s1) hh hd RA.gen (hlim _ hk) hgs
      (segq_of (hgo (s.setGen g .running) RA.st) fun _ _ z => z) (fun v gd lv k c' p fs s₁ he => ?_) fun x s₁ he => ?_
    · exact rest j (s.setGen g .running) s₁ acc c _ (by omega) RA.gen (allBare_setGen hb rfl) ho hk hS hacc (fun _ _ _ h => absurd h (by omega)) he
    · exact rest j (s.setGen g .running) s₁ acc c _ (by omega) RA.gen (allBare_setGen hb rfl) ho hk hS hacc (fun _ _ _ h => absurd h (by omega)) he
  | succ r ih =>
    intro j s acc c hj RA hb ho hk hS hacc
    obtain ⟨gs, hgs, ⟨_, _, _, _, _, _, rfl⟩, hgo⟩ := RA.go
    refine ext_turn (Φ := fun e s1 => SegEnd (TR i.L i.it) (TY i.L i.it i.l i.items) (i.items.size - j) (Seg.next (model P w) A.in1.in1 (TR i.L i.it) (TY i.L i.it i.l i.items) (i.items.size - j)) (s.setGen g .running) e s1) hh hd RA.gen (hlim _ hk) hgs
      (segq_of (hgo (s.setGen g .running) RA.st) fun _ _ z => z) (fun v gd lv k c' p fs s₁ he => ?_) fun x s₁ he => ?_
    · exact rest j (s.setGen g .running) s₁ acc c _ (by omega) RA.gen (allBare_setGen hb rfl) ho hk hS hacc (fun s acc c _ => ih (j + 1) s acc c (by omega)) he
    · exact rest j (s.setGen g .running) s₁ acc c _ (by omega) RA.gen (allBare_setGen hb rfl) ho hk hS hacc (fun s acc c _ => ih (j + 1) s acc c (by omega)) he
end
theorem call_list_newT {P : Program} {w : World} {outer : List Env} {H : Hp} {sc s : Shared} {B : Heap} {Q : List V → Hp → Prop} {A : Around} {k : Nat} {u : Value} {Q' : Value → Shared → Prop} {E : Value → Shared → Prop}
    (hr : Room (k + 3) A) (hfr : A.frames = some outer) (h : TMade P w k outer H sc Q u s) (hB : ∀ b o, B.get? b = some o → sc.heap.get? b = some o ∧ H b = none ∧ b ∉ frs outer) (hBl : B.NoLimit)
    (hQ : ∀ S s' acc c H' ys, s.heap.objs.size ≤ S → s'.heap.get? S = some (lstObj acc c) → Vals ys acc.toList → ys.length ≤ sizeLine → s'.os = sc.os → AllBare s'.gens → Un (frs outer) [] H H' sc.heap s'.heap → HOk P w H' s'.heap → H' S = none → Q ys H' → Q' (.ref S) s') :
    wpAny (model P w) A (call (.type "list") [u]) Q' E s := by
  obtain ⟨a, g, c, rfl, ha1, ha2, hg, hgs, hos, hb, hl, hkp, wake⟩ := h
  have hSa : s.heap.objs.size ≠ a := Nat.ne_of_gt ha2
  refine callType_codes (Q₁ := fun obj s₁ => obj = .ref s.heap.objs.size ∧ s₁ = { s with heap := s.heap.push { cls := .type "list", data := .seq #[] } }) F.called_list (F.typeCall_list_1 _) F.entry_list_init
    (code_list_new _ ⟨rfl, rfl⟩) fun obj s₁ h₁ => ?_
  obtain ⟨rfl, rfl⟩ := h₁
  have hS : (s.heap.push { cls := .type "list", data := .seq #[] }).get? s.heap.objs.size = some { cls := .type "list", data := .seq #[] } := Heap.get?_push_size _ rfl
  refine ⟨⟨_, hS, rfl⟩, F.args_list_init_2 _ _, ?_⟩
  show wpAny _ A.in1.in1 (do let old ← Builtin.List.listItems (.ref s.heap.objs.size); Builtin.List.listUpdate (.ref s.heap.objs.size) (fun _ => #[]); letGo old.toList.reverse; Builtin.List.listExtendWith (.ref s.heap.objs.size) (.ref a) .none) _ _ _
  refine wpAny_bind ?_
  unfold Builtin.List.listItems
  refine wpAny_bind (wpAny_seqItems hS rfl (wpAny_pure ?_))
  show wpAny _ A.in1.in1 (updateSeq s.heap.objs.size (fun _ => #[]) >>= fun _ => letGo (#[] : Array Value).toList.reverse >>= fun _ => Builtin.List.listExtendWith (.ref s.heap.objs.size) (.ref a) .none) _ _ _
  refine wpAny_bind (wpAny_updateSeq hS rfl ?_)
  have hS2 := Heap.get?_update_self (Obj.mapSeq (fun _ => (#[] : Array Value))) hS rfl
  refine wpAny_bind (wpAny_letGo ?_)
  unfold Builtin.List.listExtendWith
  have up : ∀ (h : Heap) (f : Obj → Obj), (∀ b o, s.heap.get? b = some o → h.get? b = some o) → ∀ b o, s.heap.get? b = some o → (h.update s.heap.objs.size f).get? b = some o := fun h f q b o e =>
    (Heap.get?_update_other _ _ (Ne.symm (Nat.ne_of_lt (Heap.lt_size e)))).trans (q b o e)
  have k1 : ∀ b o, s.heap.get? b = some o → (s.heap.push { cls := .type "list", data := .seq #[] }).get? b = some o := fun b o e => Heap.get?_push_of_some _ e
  have k2 := up _ (Obj.mapSeq (fun _ => (#[] : Array Value))) k1
  have gty : ∀ {h : Heap}, (∀ b o, s.heap.get? b = some o → h.get? b = some o) → h.IsGen a g := fun {h} q => hg.keeps q
  refine wpAny_bind (wpAny_typeOf (Heap.IsGen.typeIs (s := { s with heap := _ }) (gty k2)) ?_)
  have h1 : Builtin.List.listSameRef (.ref s.heap.objs.size) (.ref a) = false := by simp [Builtin.List.listSameRef, hSa]
  have h2 : (Value.type "generator" == Value.type "list") = false := by decide
  have h3 : (Value.type "generator" == Value.type "tuple") = false := by decide
  simp only [h1, h2, h3, Bool.or_false, Bool.false_eq_true, if_false]
  refine wpAny_bind (wpAny_pyIter_gen (s := { s with heap := _ }) (gty k2) ?_)
  refine wpAny_bind (wpAny_holding ?_)
  unfold Builtin.List.listLengthHint
  refine wpAny_bind (wpAny_specialOf (Heap.IsGen.typeIs (s := { s with heap := _ }) (gty k2)) F.gen_no_len ?_)
  show wpAny _ A.in1.in1 (specialOf (Value.ref a) (Str.ofString "__length_hint__") >>= _) _ _ _
  refine wpAny_bind (wpAny_specialOf (Heap.IsGen.typeIs (s := { s with heap := _ }) (gty k2)) F.gen_no_hint ?_)
  refine wpAny_pure ?_
  show wpAny _ A.in1.in1 (rule "list.extend.makes-room" >>= fun _ => Builtin.List.listTouch (.ref s.heap.objs.size) >>= fun _ =>
    again (.builtin "list.extend.loop" ⟨[.ref s.heap.objs.size, .ref a, .none], []⟩)) _ _ _
  refine wpAny_bind (wpAny_rule ?_)
  refine wpAny_bind ?_
  show wpAny _ A.in1.in1 (updateSeq s.heap.objs.size (·.push .none) >>= fun _ => updateSeq s.heap.objs.size (·.pop)) _ _ _
  refine wpAny_bind (wpAny_updateSeq hS2 rfl ?_)
  have hS3 := Heap.get?_update_self (Obj.mapSeq (·.push Value.none)) hS2 rfl
  refine wpAny_updateSeq (hz := by seq_fits) hS3 rfl ?_
  have hS4 := Heap.get?_update_self (Obj.mapSeq (·.pop)) hS3 rfl
  have k4 := up _ (Obj.mapSeq (·.pop)) (up _ (Obj.mapSeq (·.push Value.none)) k2)
  refine wpAny_pure ⟨plainId_quiet F.plain_extend_loop _, ?_⟩
  have hS4' : ∃ c0, (((s.heap.push { cls := .type "list", data := .seq #[] }).update s.heap.objs.size (Obj.mapSeq (fun _ => (#[] : Array Value)))).update s.heap.objs.size (Obj.mapSeq (·.push Value.none)) |>.update s.heap.objs.size (Obj.mapSeq (·.pop))).get? s.heap.objs.size = some (lstObj #[] c0) := ⟨_, hS4⟩
  obtain ⟨c0, hS5⟩ := hS4'
  generalize (((s.heap.push { cls := .type "list", data := .seq #[] }).update s.heap.objs.size (Obj.mapSeq (fun _ => (#[] : Array Value)))).update s.heap.objs.size (Obj.mapSeq (·.push Value.none)) |>.update s.heap.objs.size (Obj.mapSeq (·.pop))) = h5 at *
  have hrA : Room k A.in1.in1.in1 := ⟨hr.hd, by have := hr.dp; show A.depth + 3 * k + 5 < _; omega, by have := hr.un; show A.units + 1 + 1 + 1 + 16 * k + 200 < _; omega⟩
  have wk := wake A.in1.in1.in1 (({ s with heap := h5 } : Shared).setGen g .running) [(s.heap.objs.size, lstObj #[] c0)] hrA hfr k4 hos (allBare_setGen (s := { s with heap := h5 }) hb rfl) fun p hp => by
    rw [List.mem_singleton.mp hp]
    exact ⟨hS5, Nat.le_refl _, fun v z => by cases z⟩
  -- what is known once the loop of the generator has begun
  have known : ∀ {i : TInfo} {H1 : Hp} {xs : List V} {e : End} {s₁ : Shared} {RR : Result → Shared → Prop}, TGood P w outer H sc a g [(s.heap.objs.size, lstObj #[] c0)] Q i H1 xs → SegEnd (TR i.L i.it) (TY i.L i.it i.l i.items) i.items.size (Seg.next (model P w) A.in1.in1.in1 (TR i.L i.it) (TY i.L i.it i.l i.items) i.items.size) i.mid e s₁ →
      (∀ s', Q' (.ref s.heap.objs.size) s' → RR (.ok (.ret .none)) s') →
      match e with
      | .ret x => x = .ok (.ret .none) ∧ ∀ h', (∀ b o, s₁.heap.get? b = some o → h'.get? b = some o) → RR (.ok (.ret .none)) { s₁.setGen g .finished with heap := h' }
      | .susp v gd lv k c p fs => (End.susp v gd lv k c p fs).quiet = true ∧ ∃ acc c', s₁.heap.get? s.heap.objs.size = some (lstObj acc c') ∧ acc.size < sizeLine ∧
        (g < s₁.gens.size → codeAny (model P w) A.in1 (.builtin "list.extend.loop" ⟨[.ref s.heap.objs.size, .ref a, .none], []⟩) RR { s₁.setGen g (End.susp v gd lv k c p fs).genState with heap := s₁.heap.update s.heap.objs.size (Obj.mapSeq (·.push v)) }) := fun {i H1 xs e s₁ RR} good he hRR => by
    obtain ⟨p1, p2, p3, p4, p5⟩ := good.pin _ (List.mem_singleton.mpr rfl)
    have yL := good.young i.L (by simp)
    have yi := good.young i.it (by simp)
    have ssz : sc.heap.objs.size ≤ s.heap.objs.size := Nat.le_of_lt (Nat.lt_of_le_of_lt ha1 ha2)
    have old : ∀ b o, sc.heap.get? b = some o → b ∉ [i.L, i.it, s.heap.objs.size] := fun b o e z => by
      have := Heap.lt_size e
      simp only [List.mem_cons, List.mem_nil_iff, or_false] at z
      rcases z with z | z | z
      · rw [z] at this; exact absurd (Nat.lt_of_lt_of_le this yL.1) (Nat.lt_irrefl _)
      · rw [z] at this; exact absurd (Nat.lt_of_lt_of_le this yi.1) (Nat.lt_irrefl _)
      · rw [z] at this; exact absurd (Nat.lt_of_lt_of_le this ssz) (Nat.lt_irrefl _)
    have trk : ∀ b u, H1 b = some u → b ∉ [i.L, i.it, s.heap.objs.size] := fun b u e z => by
      simp only [List.mem_cons, List.mem_nil_iff, or_false] at z
      rcases z with z | z | z
      · rw [z, yL.2] at e; cases e
      · rw [z, yi.2] at e; cases e
      · rw [z, p2] at e; cases e
    have hend : ∀ s' c, s'.heap.get? s.heap.objs.size = some (lstObj i.items c) → s'.os = i.mid.os → AllBare s'.gens → (∀ b o, b ∉ [i.L, i.it, s.heap.objs.size] → i.mid.heap.get? b = some o → s'.heap.get? b = some o) → RR (.ok (.ret .none)) s' := fun s' c hS' ho' hb' hk' =>
      hRR s' (hQ _ s' i.items c H1 xs (Nat.le_refl _) hS' good.vals good.len (ho'.trans good.os) hb' ⟨fun b o e n hf hx => hk' b o (old b o e) (good.un.keep b o e n hf hx), fun b o e n hf hx => by
        obtain ⟨sl, z⟩ := good.un.slot b o e n hf hx
        exact ⟨sl, hk' b _ (old b o e) z⟩, good.un.free, fun b o e hx => by
        obtain ⟨o', z⟩ := good.un.there b o e hx
        exact ⟨o', hk' b _ (old b o e) z⟩, good.un.tups, good.un.frzs, good.un.tbls⟩ (fun b u e => by
        refine (good.ok b u e).stay (fun c v hc q => hk' c v ?_ q) (fun _ q => q) fun _ _ q => q
        rcases hc with z | z
        · rw [z]; exact trk b u e
        · exact trk c _ z) p2 good.q)
    have hlim : ∀ h : Heap, (∀ b o, b ∉ [i.L, i.it, s.heap.objs.size] → i.mid.heap.get? b = some o → h.get? b = some o) → h.NoLimit := fun h hk => hBl.keeps fun b o e => by
      obtain ⟨b1, b2, b3⟩ := hB b o e
      exact hk b o (old b o b1) (good.un.keep b o b1 b2 b3 (by simp))
    have hz : i.items.size ≤ sizeLine := by
      have e1 : xs.length = i.items.size := by rw [← Array.length_toList]; exact good.vals.length
      have := good.len
      omega
    have hdA : A.in1.depth < recursionLimit := by have := hr.dp; show A.depth < _; omega
    refine drain_rest (P := P) (w := w) (A := A.in1) (g := g) (R := RR) (res := .none) (mid := i.mid) hSa ⟨p3, p4, p5⟩ good.apart hz hend 0 i.mid s₁ #[] c0 e (Nat.zero_le _) good.gen good.bare rfl (fun _ _ _ e => e) p1 rfl (fun s' acc c hj RA hb ho hk hS hacc => ?_) he
    exact drain_run (P := P) (w := w) (A := A.in1) (g := g) (R := RR) (res := .none) (mid := i.mid) hr.hd hdA hSa ⟨p3, p4, p5⟩ good.apart hlim hz hend (i.items.size - 1) 1 s' acc c (by omega) RA hb ho hk hS hacc
  have hdA : A.in1.depth < recursionLimit := by have := hr.dp; show A.depth < _; omega
  refine ext_turn (A := A.in1) (gs := .fresh c) (Φ := TEnd P w A.in1.in1.in1 outer H sc a g [(s.heap.objs.size, lstObj #[] c0)] Q) hr.hd hdA (gty k4) (hl.keeps k4) hgs wk (fun v gd lv k c p fs s₁ he => ?_) fun x s₁ he => ?_
  · obtain ⟨i, H1, xs, good, he⟩ := he
    exact known good he fun s' q => ⟨rfl, q⟩
  · obtain ⟨i, H1, xs, good, he⟩ := he
    exact known good he fun s' q => ⟨rfl, q⟩
/-- behind the draining: the list is tracked -/
def tListT (tg : TGen) : TE := fun σ H Q => tg σ H fun out H2 => ∀ p, H2 p = none → Q (.ref p) (upd H2 p (.lst out))
theorem pe_listT {X : Cx} {k : Nat} {e : Expr} {tg : TGen} {nm : Str} {p pos : Pos} (h : PGenT X k e tg) (hr : Room (k + 3) X.A) (hg : Gl X nm) (hmg : X.mg nm = none) (hv : bootBuiltins nm = some (.type "list")) (hnm : nm ≠ "__name__" := by decide) (hdb : (nm == ("__debug__" : Str)) = false := by decide)
    (he : starEach [e] X.env = (false, eval e X.env) :: starEach [] X.env := by rfl) : PE X (.Call (.Name nm p) [e] [] pos) (tListT tg) := by
  refine ⟨fun pins s σ H Q I hq => ?_⟩
  refine wpAny_Call_Name_kw (ld_blt I hg hmg hv ?_ hnm hdb)
  refine PyProof.Rows.callWith_type1 ?_ he rfl
  rw [he]
  show wpAny _ _ (spliced ((false, eval e X.env) :: backTo pos (starEach [] X.env))) _ _ s
  refine Calls.spliced_cons (thn (h.run pins s σ H _ I hq) fun u s1 ⟨H1, sc, I1, hG⟩ => ?_)
  refine Calls.spliced_nil ?_
  have hsz : sc.heap.objs.size ≤ s1.heap.objs.size := by
    obtain ⟨a, g, c, _, h1, h2, _⟩ := hG
    exact Nat.le_trans h1 (Nat.le_of_lt h2)
  refine call_list_newT (B := X.base) hr I1.ok.frames hG (fun b o e => ⟨(I1.bs b o e).1, (I1.bs b o e).2, fun hm => ?_⟩) I1.ok.mod.nolimit (fun S s' acc c H' ys q0 q1 q2 hl q3 q4 q5 q6 q7 q8 => ?_)
  · rcases List.mem_cons.mp (I1.stkSub b hm) with z | z
    · have h1 := Heap.lt_size e
      have h2 := Nat.le_trans I1.ok.bsz I1.ok.above
      rw [z] at h1
      exact absurd (Nat.lt_of_lt_of_le h1 h2) (Nat.lt_irrefl _)
    · exact I1.ok.nofr e z
  · exact ⟨.ref S, upd H' S (.lst ys), I1.drained (Nat.le_trans hsz q0) hl q1 q2 .nil q3 q4 q5 q6 q7, rfl, q8 S q7⟩
end L2
set_option Elab.async false
set_option linter.all false
set_option maxRecDepth 100000
set_option maxHeartbeats 2000000
/-! CompT: a list comprehension over a generator. -/
namespace L2
open PySem PySem.Spec PyProof.Rows GenW
section
variable {X : Cx} {pins : List (Addr × Obj)} {σ : L2.St} {H : Hp} {s4 : Shared} {i : TInfo} {a : Addr} {g j : Nat}
theorem own_obj (R : RunAt X.prog X.w X.A.in1 i a g j s4) : ∀ b ∈ [i.L, i.it, i.l, a], ∃ o, s4.heap.get? b = some o ∧ ∀ v, o.data ≠ .cell v := fun b hb => by
  obtain ⟨oa, nm, qn, ga, gb, gc, gd⟩ := id R.gen
  rcases List.mem_append.mp (show b ∈ [i.L, i.it, i.l] ++ [a] from hb) with z | z
  · exact tail_obj R.st b z
  · rw [List.mem_singleton.mp z]
    exact ⟨oa, ga, fun v z => by rw [gc] at z; cases z⟩
theorem own_pin (I : Inv X pins σ H s4) (O : Own X pins i a) (R : RunAt X.prog X.w X.A.in1 i a g j s4) (hn : ∀ b ∈ [i.L, i.it, i.l, a], H b = none) : Inv X (pins ++ pinsAt [i.L, i.it, i.l, a] s4.heap) σ H s4 :=
  I.pins_of fun p hp => (List.mem_append.mp hp).elim (fun z => I.pin p (List.mem_append_right _ z)) fun z => by
    obtain ⟨hb, e⟩ := of_pinsAt z
    obtain ⟨o, e', d⟩ := own_obj R p.1 hb
    rw [e] at e'; cases e'
    have n1 := hn p.1 hb
    by_cases q : p.1 ∈ [i.L, i.it, a]
    · exact ⟨e, n1, (O.fp p.1 q H n1).2.1, (O.fp p.1 q H n1).2.2.1, d⟩
    · have : p.1 = i.l := by
        simp only [List.mem_cons, List.mem_nil_iff, or_false] at hb q
        rcases hb with h | h | h | h
        · exact absurd (.inl h) q
        · exact absurd (.inr (.inl h)) q
        · exact h
        · exact absurd (.inr (.inr h)) q
      refine ⟨e, n1, ?_, ?_, d⟩
      · rw [this]; exact O.l.1
      · rw [this]; exact O.l.2
theorem own_back {σ' : L2.St} {H' : Hp} {s6' : Shared} (bare4 : AllBare s4.gens) (R : RunAt X.prog X.w X.A.in1 i a g j s4) (d6 : Held (asleep s4) s6') (J : Inv X (pins ++ pinsAt [i.L, i.it, i.l, a] s4.heap) σ' H' s6') :
    Inv X pins σ' H' (put (asleep s4) s6') ∧ RunAt X.prog X.w X.A.in1 i a g j (put (asleep s4) s6') ∧ ∀ b ∈ [i.L, i.it, i.l, a], H' b = none := by
  obtain ⟨gs, hgs, hsus, hgo⟩ := R.go
  obtain ⟨oa, nm, qn, ga, gb, gc, gd⟩ := id R.gen
  have kp : ∀ b ∈ [i.L, i.it, i.l, a], ∀ o, s4.heap.get? b = some o → s6'.heap.get? b = some o := fun b hb o e => (J.pin (b, o) (List.mem_append_right _ (List.mem_append_right _ (mem_pinsAt hb e)))).1
  refine ⟨J.unpinned.regen rfl rfl (bare_put bare4 J.bare d6), ⟨tail_keep R.st fun b hb o e => kp b (by simp only [List.mem_cons, List.mem_nil_iff, or_false] at hb ⊢; rcases hb with h | h | h <;> simp [h]) o e, ⟨oa, nm, qn, kp a (by simp) _ ga, gb, gc, gd⟩, gs, put_some d6 (asleep_at hgs hsus), hsus, hgo⟩, fun b hb => ?_⟩
  obtain ⟨o, e, _⟩ := own_obj R b hb
  exact (J.pin (b, o) (List.mem_append_right _ (List.mem_append_right _ (mem_pinsAt hb e)))).2.1
end
/-- what a turn of the comprehension reaches -/
def Fin (X : Cx) (i : TInfo) (a : Addr) (g j : Nat) (vs : List Nat) (σ0 : L2.St) (Nx : Hp → Prop) (s : Shared) : Prop := ∃ σ8 H', wipe σ8 vs = σ0 ∧ Nx H' ∧ Inv X [] σ8 H' s ∧ RunAt X.prog X.w X.A.in1 i a g j s ∧ ∀ b ∈ [i.L, i.it, i.l, a], H' b = none
theorem lc_turn {X : Cx} {σ σ0 : L2.St} {H : Hp} {s4 : Shared} {i : TInfo} {a D : Addr} {g j : Nat} {elt tgt : Expr} {ifs : List Expr} {tg : TG} {tt : TT} {te : TE} {Nx : Hp → Prop} {x : V} {u : Value} {vs : List Nat} {E' : Value → Shared → Prop}
    (hno : ∀ e s, ¬ X.xe e s) (hg : PG X tgt tg) (ht : PTs X ifs tt) (he : PE X elt te) (I : Inv X [] σ H s4) (O : Own X [] i a) (R : RunAt X.prog X.w X.A.in1 i a g j s4) (hn : ∀ b ∈ [i.L, i.it, i.l, a], H b = none) (r : RelV x u)
    (step : tg x σ H fun σ2 H2 => wipe σ2 vs = σ0 ∧ tt σ2 H2 fun b H3 => if b = true then te σ2 H3 fun y H4 => ∃ acc, H4 D = some (.lst acc) ∧ acc.length < sizeLine ∧ Nx (upd H4 D (.lst (acc ++ [y]))) else Nx H3) :
    wpAny (model X.prog X.w) X.A (assign tgt X.env u) (fun _ s₂ => wpAny (model X.prog X.w) X.A (forIn ifs true fun c r => if r = true then do let ok ← isTrue c X.env (eval c X.env); pure (ForInStep.yield ok) else pure (ForInStep.yield r)) (fun ok s₃ =>
      if ok = true then wpAny (model X.prog X.w) X.A (eval elt X.env) (fun x s₄ => wpAny (model X.prog X.w) X.A (call (.builtin "list.append") [.ref D, x]) (fun _ s₅ => Fin X i a g j vs σ0 Nx s₅) E' s₄) E' s₃
      else Fin X i a g j vs σ0 Nx s₃) E' s₂) E' s4 := by
  have bare4 := I.bare
  have If : Inv X ([] ++ pinsAt [i.L, i.it, i.l, a] s4.heap) σ H (frozen s4) := (own_pin I O R hn).regen rfl rfl (bare_frozen bare4)
  refine wpAny_mono (wpAny_frozen (hg.run _ (frozen s4) σ H x u _ If r step)) (fun _ s5 h5 => ?_) fun e s5 ⟨_, _, _, _, z⟩ => absurd z (hno _ _)
  obtain ⟨s5', c5, d5, rfl, σ6, H6, I6, hw, q6⟩ := h5
  refine wpAny_mono (wpAny_put c5 d5 (ht.run _ s5' σ6 H6 _ I6 q6)) (fun b s6 h6 => ?_) fun e s5 ⟨_, _, _, _, z⟩ => absurd z (hno _ _)
  obtain ⟨s6', c6, d6, rfl, H7, I7, q7⟩ := h6
  cases b with
  | false =>
    simp only [Bool.false_eq_true, if_false] at q7 ⊢
    exact ⟨σ6, H7, hw, q7, own_back bare4 R d6 I7⟩
  | true =>
    simp only [if_true] at q7 ⊢
    refine wpAny_mono (wpAny_put c6 d6 (he.run _ s6' σ6 H7 _ I7 q7)) (fun v s7 h7 => ?_) fun e s5 ⟨_, _, _, _, z⟩ => absurd z (hno _ _)
    obtain ⟨s7', c7, d7, rfl, yv, H8, I8, r8, acc, hD, hz, nx⟩ := h7
    refine wpAny_mono (wpAny_put c7 d7 (app_ok (E := fun _ _ => False) (Q := fun _ s' => Inv X ([] ++ pinsAt [i.L, i.it, i.l, a] s4.heap) σ6 (upd H8 D (.lst (acc ++ [yv]))) s') I8 hD hz r8 fun s' J => J)) (fun _ s8 h8 => ?_) fun e s5 ⟨_, _, _, _, z⟩ => z.elim
    obtain ⟨s8', c8, d8, rfl, J⟩ := h8
    exact ⟨σ6, _, hw, nx, own_back bare4 R d8 J⟩
/-- a block's context over an earlier state -/
theorem Inv.rebase {X : Cx} {pins : List (Addr × Obj)} {σ σ' : L2.St} {H1 H3 H' : Hp} {sc s3 s4 : Shared} {scope : Scope} {ce : Env} (I1 : Inv X pins σ H1 sc) (J : Inv (X.blk s3 H3 scope ce []) [] σ' H' s4) (hsz : sc.heap.objs.size ≤ s3.heap.objs.size)
    (un : Un (frs X.stack) [] H1 H' sc.heap s4.heap) (os : s4.os = sc.os) : Inv (X.blk sc H1 scope ce []) [] σ' H' s4 :=
  ⟨⟨J.ok.mod, J.ok.kind, J.ok.glob, J.ok.blt, Nat.le_trans hsz J.ok.above, J.ok.inj, J.ok.has, fun x c h e => Nat.le_trans hsz (J.ok.cab x c h e), J.ok.hd, J.ok.frames, J.ok.stk, fun b hb => absurd (show b ∈ ([] : List Addr) from hb) (by simp), I1.bs, Nat.le_trans I1.ok.bsz I1.sz,
    fun b o _ hb => absurd (show b ∈ ([] : List Addr) from hb) (by simp), fun b hb => absurd (show b ∈ ([] : List Addr) from hb) (by simp), I1.stack, I1.stkFree⟩, os, J.bare, un, J.loc, J.cell, J.free, J.freeC, J.pin, J.hok, J.len⟩
theorem pushCells_none : ∀ (names : List (Str × NameKind)) (h : Heap), (∀ y ∈ names, y.2 ≠ .cell) → pushCells h names = h
  | [], _, _ => rfl
  | (y, k) :: r, h, hn => by
    unfold pushCells
    split
    · rename_i z
      exact absurd (by simpa using z) (hn (y, k) List.mem_cons_self)
    · exact pushCells_none r h fun z hz => hn z (List.mem_cons_of_mem _ hz)
def LStage (XB : Cx) (a D : Addr) (g : Nat) (Q : VK) (tg : TG) (tt : TT) (te : TE) (vs : List Nat) (σ : L2.St) (n : Nat) (s : Shared) : Prop :=
  ∃ (i : TInfo) (xs : List V) (W : Nat → Nat → Hp → Prop) (j m : Nat) (H : Hp), n + j = sizeLine + 1 ∧ Vals xs i.items.toList ∧ j ≤ xs.length ∧ xs.length ≤ sizeLine ∧ Own XB [] i a ∧ (∀ b ∈ [i.L, i.it, i.l, a], H b = none) ∧ Inv XB [] (wipe σ vs) H s ∧ RunAt XB.prog XB.w XB.A.in1 i a g j s ∧ W j m H ∧
    ∀ i m H, W i m H → ((ItG xs).stop i H ∧ Q (.ref D) H) ∨ ((ItG xs).go i H ∧ ∃ Nx : Hp → Prop, (∀ H', Nx H' → ∃ m', m' < m ∧ W (i + 1) m' H') ∧ ∀ x H', (ItG xs).yld i H x H' → tg x (wipe σ vs) H' fun σ2 H2 => wipe σ2 vs = wipe σ vs ∧ tt σ2 H2 fun b H3 =>
      if b = true then te σ2 H3 fun y H4 => ∃ acc, H4 D = some (.lst acc) ∧ acc.length < sizeLine ∧ Nx (upd H4 D (.lst (acc ++ [y]))) else Nx H3)
theorem lc_coreT {X : Cx} {k : Nat} {pins : List (Addr × Obj)} {s : Shared} {σ : L2.St} {H : Hp} {Q : VK} {elt tg iter : Expr} {ifs : List Expr} {scope : Scope} {own : List (Str × Nat)} {pos pos' : Pos} {tgn : TGen} {g : TG} {tt : TT} {te : TE} {use : Option (Value → Sem Unit)} {Qf : Value → Shared → Prop}
    (hh : X.A.handled = none) (hr : Room (k + 1) X.A) (hN : X.N.Nodup) (I : Inv X pins σ H s) (hi : PGenT X k iter tgn) (ok : BlkOk X.N X.env.scope scope own) (hnc : ∀ y ∈ scope.names, y.2 ≠ .cell)
    (hg : ∀ (s : Shared) (H : Hp) (C : Addr) (cl : List (Str × Addr)) (fp : List Addr), PG (X.blk s H scope (compEnvC scope cl C X.env) fp) tg g) (ht : ∀ (s : Shared) (H : Hp) (C : Addr) (cl : List (Str × Addr)) (fp : List Addr), PTs (X.blk s H scope (compEnvC scope cl C X.env) fp) ifs tt)
    (he : ∀ (s : Shared) (H : Hp) (C : Addr) (cl : List (Str × Addr)) (fp : List Addr), PE (X.blk s H scope (compEnvC scope cl C X.env) fp) elt te) (hs : ∀ x, foldedSetIterable iter X.env x = pure x)
    (h : tLc (tItG tgn) g tt te (own.map (·.2)) σ H Q)
    (hRR : ∀ D C s' m H', Inv X pins σ H' s' → Q (.ref D) H' → s'.heap.Ns C m → FpOk X pins H' C → compPost (model X.prog X.w) X.A X.xe use Qf (.ref D) C (.ok .next) s') :
    wpAny (model X.prog X.w) X.A (comprehension (.ListComp elt [⟨tg, iter, ifs, 0⟩] scope pos) scope X.env pos' (newList []) false (eval iter X.env) use) Qf X.xe s := by
  have hfree : ∀ y ∈ scope.names, y.2 = .free → ∃ c, X.env.cells.lookup y.1 = some c := fun y hy e => by
    rcases ok.free y hy e with k | k
    · exact I.ok.has _ (.inl k)
    · exact I.ok.has _ (.inr k)
  refine wpAny_comprehension_free (use := use) rfl hs (closure_ok hfree) ok.kind (fun y hy e => by rw [ok.uniq y hy, e])
    (thn (hi.run pins s σ H _ I h) fun xv s1 ⟨H1, sc, I1, made⟩ => ?_)
  obtain ⟨a, g0, c, rfl, ha1, ha2, hga, hgs, hos, hba, hlim, hkp, wake⟩ := made
  refine wpAny_pyIter_gen hga ?_
  refine wpAny_newObj_type (newEnv_comp ?_) (by show 0 ≤ sizeLine; decide)
  generalize hD : s1.heap.objs.size = D
  have I1' : Inv X pins σ H1 s1 := I1.call' (ch := []) hos (Un.kept hkp) (I1.hok.kept hkp) hba fun b z => by simp at z
  have hDn : H1 D = none := I1'.hok.fresh (Nat.le_of_eq hD)
  -- the new list
  generalize hs3 : ({ s1 with heap := s1.heap.push { cls := .type "list", data := .seq ([] : List Value).toArray } } : Shared) = s3
  have I3 : Inv X pins σ (upd H1 D (.lst [])) s3 := by
    rw [← hs3]
    refine I1'.laid (t' := s1.toks) (fun b o e => Heap.get?_push_of_some _ e) (Nat.le_of_eq hD) ⟨Nat.zero_le _, [], 0, .nil, ?_⟩
    rw [← hD]
    exact Heap.get?_push_size _ rfl
  have h3 : s3.heap = s1.heap.push { cls := .type "list", data := .seq ([] : List Value).toArray } := by rw [← hs3]
  have g3 : s3.gens = s1.gens := by rw [← hs3]
  have o3 : s3.os = s1.os := by rw [← hs3]
  have I4b := block_start (fp := []) I3 ok hN fun b hb => by simp at hb
  have pg := hg sc H1 s3.heap.objs.size (cellsFrom (s3.heap.objs.size + 1) scope.names (cloFrom X.env.cells scope.names [])) []
  have pt := ht sc H1 s3.heap.objs.size (cellsFrom (s3.heap.objs.size + 1) scope.names (cloFrom X.env.cells scope.names [])) []
  have pe := he sc H1 s3.heap.objs.size (cellsFrom (s3.heap.objs.size + 1) scope.names (cloFrom X.env.cells scope.names [])) []
  show codeAny _ _ (.compStart (.ListComp elt [⟨tg, iter, ifs, 0⟩] scope pos) 0 (.ref a) (.ref D) (compEnvC scope (cellsFrom (s3.heap.objs.size + 1) scope.names (cloFrom X.env.cells scope.names [])) s3.heap.objs.size X.env)) (compPost (model X.prog X.w) X.A X.xe use Qf (.ref D) s3.heap.objs.size) { s3 with heap := pushCells (s3.heap.push { cls := .type "dict", data := .dict #[] }) scope.names }
  have cin : ∀ y c, (compEnvC scope (cellsFrom (s3.heap.objs.size + 1) scope.names (cloFrom X.env.cells scope.names [])) s3.heap.objs.size X.env).cells.lookup y = some c → ∃ y', X.env.cells.lookup y' = some c := fun y c e => by
    have e : (cellsFrom (s3.heap.objs.size + 1) scope.names (cloFrom X.env.cells scope.names [])).lookup y = some c := e
    rw [← Heap.size_push s3.heap { cls := .type "dict", data := .dict #[] }] at e
    rcases cells_mem (PySem.mem_of_lookup e) with hm | ⟨h1, _, _⟩
    · rcases cloFrom_mem hm with hm | ⟨h1, rfl⟩
      · cases hm
      · obtain ⟨c, hc⟩ := hfree _ h1 rfl
        exact ⟨y, by rw [hc]; rfl⟩
    · exact absurd rfl (hnc _ h1)
  rw [pushCells_none _ _ hnc] at I4b ⊢
  generalize hce : compEnvC scope (cellsFrom (s3.heap.objs.size + 1) scope.names (cloFrom X.env.cells scope.names [])) s3.heap.objs.size X.env = ce at I4b pg pt pe cin ⊢
  have cL : ce.locals = s3.heap.objs.size := by subst hce; rfl
  generalize hC : s3.heap.objs.size = C at cL I4b ⊢
  generalize hs4 : ({ s3 with heap := s3.heap.push { cls := .type "dict", data := .dict #[] } } : Shared) = s4 at I4b ⊢
  have h4 : s4.heap = s3.heap.push { cls := .type "dict", data := .dict #[] } := by rw [← hs4]
  have g4 : s4.gens = s1.gens := by rw [← hs4]; exact g3
  have o4 : s4.os = s1.os := by rw [← hs4]; exact o3
  have k14 : ∀ b o, s1.heap.get? b = some o → s4.heap.get? b = some o := fun b o e => by rw [h4, h3]; exact Heap.get?_push_of_some _ (Heap.get?_push_of_some _ e)
  have hCD : D < C := by rw [← hC, h3, Heap.size_push, hD]; exact Nat.lt_succ_self _
  have scD : sc.heap.objs.size ≤ D := by rw [← hD]; exact Nat.le_of_lt (Nat.lt_of_le_of_lt ha1 ha2)
  have aD : a < D := by rw [← hD]; exact ha2
  have obD : s4.heap.get? D = some { cls := .type "list", data := .seq ([] : List Value).toArray } := by
    rw [h4, h3, ← hD]
    exact Heap.get?_push_of_some _ (Heap.get?_push_size _ rfl)
  have obC : s4.heap.get? C = some { cls := .type "dict", data := .dict #[] } := by
    rw [h4, ← hC]
    exact Heap.get?_push_size _ rfl
  have un4 : Un (frs X.stack) [] H1 (upd H1 D (.lst [])) sc.heap s4.heap := Un.laid (fun b o e => k14 b o (hkp b o e)) scD hDn
  have I4 : Inv (X.blk sc H1 scope ce []) [] (wipe σ (own.map (·.2))) (upd H1 D (.lst [])) s4 := I1.rebase I4b (by rw [h3, Heap.size_push, hD]; exact Nat.le_succ_of_le scD) un4 (o4.trans hos)
  have clt : ∀ y c, ce.cells.lookup y = some c → (∃ v o, sc.heap.get? c = some o ∧ o.data = .cell v) ∧ H1 c = none ∧ c < sc.heap.objs.size := fun y c e => by
    obtain ⟨y', e'⟩ := cin y c e
    obtain ⟨v, o, ho, hd⟩ := I1.cell y' c e'
    exact ⟨⟨v, o, ho, hd⟩, I1.freeC y' c e', Heap.lt_size ho⟩
  have young : ∀ b, sc.heap.objs.size ≤ b → b ∉ frs X.stack := fun b hb hm => by
    rcases List.mem_cons.mp (I1.stkSub b hm) with z | z
    · rw [z] at hb
      exact absurd (Nat.lt_of_lt_of_le I1.lt hb) (Nat.lt_irrefl _)
    · exact I1.nofs hb z
  -- the generator's loop has begun
  have known : ∀ {i : TInfo} {H2 : Hp} {xs : List V} {QQ : List V → Hp → Prop}, TGood X.prog X.w X.stack H1 sc a g0 [(D, { cls := .type "list", data := .seq ([] : List Value).toArray }), (C, { cls := .type "dict", data := .dict #[] })] QQ i H2 xs →
      H2 D = none ∧ Inv (X.blk sc H1 scope ce []) [] (wipe σ (own.map (·.2))) (upd H2 D (.lst [])) i.mid ∧ Own (X.blk sc H1 scope ce []) [] i a ∧ ∀ b ∈ [i.L, i.it, i.l, a], (upd H2 D (.lst [])) b = none := fun {i H2 xs QQ} good => by
    obtain ⟨d1, d2, d3, d4, d5⟩ := good.pin _ List.mem_cons_self
    obtain ⟨c1, c2, c3, c4, c5⟩ := good.pin _ (List.mem_cons_of_mem _ List.mem_cons_self)
    have d1 : i.mid.heap.get? D = some { cls := .type "list", data := .seq ([] : List Value).toArray } := d1
    have c1 : i.mid.heap.get? C = some { cls := .type "dict", data := .dict #[] } := c1
    have cellM : ∀ y c v, ce.cells.lookup y = some c → s4.heap.IsCell c v → i.mid.heap.IsCell c v := fun y c v e hv => by
      obtain ⟨⟨v0, o, ho, hd⟩, hn, _⟩ := clt y c e
      obtain ⟨o', ho', hd'⟩ := hv
      have := k14 c o (hkp c o ho)
      rw [ho'] at this
      cases this
      obtain ⟨sl, e2⟩ := good.un.any ho hn (by simp)
      exact ⟨_, e2, hd'⟩
    obtain ⟨m4, hns4, hl4⟩ := I4.loc
    have hns4' : i.mid.heap.Ns ce.locals m4 := by
      have hns4 : s4.heap.Ns ce.locals m4 := hns4
      rw [cL] at hns4 ⊢
      exact hns4.at' fun o e => by rw [obC] at e; cases e; exact c1
    refine ⟨d2, ⟨I4.ok, good.os, good.bare, ?_, ⟨m4, hns4', fun i' x v e1 e2 e3 => ?_⟩, fun y c e => ?_, ?_, fun y c e => ?_, fun p hp => absurd (show p ∈ ([] : List (Addr × Obj)) ++ [] from hp) (by simp), ?_, I4.len⟩, ⟨fun b hb H' hn => ?_, ⟨?_, fun hm => ?_⟩, good.apart⟩, fun b hb => ?_⟩
    · exact ⟨good.un.keep, good.un.slot, fun b o e n hx => by rw [upd_ne (Nat.ne_of_lt (Nat.lt_of_lt_of_le (Heap.lt_size e) scD))]; exact good.un.free b o e n hx, good.un.there, fun b xs e => by
        have := good.un.tups b xs e
        rw [upd_ne (ne_of_none this d2)]; exact this, fun b o u e => by
        have := good.un.frzs b o u e
        rw [upd_ne (ne_of_none this d2)]; exact this, fun b ps e => by
        obtain ⟨m, this⟩ := good.un.tbls b ps e
        exact ⟨m, by rw [upd_ne (ne_of_none this d2)]; exact this⟩⟩
    · obtain ⟨u, ru, lk⟩ := hl4 i' x v e1 e2 e3
      refine ⟨u, ru, ?_⟩
      rcases lk with lk | ⟨lk, c, lc, hc⟩
      · exact .inl lk
      · exact .inr ⟨lk, c, lc, cellM x c _ lc hc⟩
    · obtain ⟨v, hv⟩ := I4.cell y c e
      exact ⟨v, cellM y c v e hv⟩
    · show (upd H2 D (.lst [])) ce.locals = none
      rw [cL, upd_ne (Nat.ne_of_gt hCD)]
      exact c2
    · obtain ⟨⟨_, o, ho, _⟩, hn, hlt⟩ := clt y c e
      rw [upd_ne (Nat.ne_of_lt (Nat.lt_of_lt_of_le hlt scD))]
      exact good.un.free c o ho hn (by simp)
    · intro b u e
      by_cases hb : b = D
      · subst hb
        rw [upd_same] at e
        cases e
        exact ⟨Nat.zero_le _, [], 0, .nil, d1⟩
      · rw [upd_ne hb] at e
        exact (good.ok b u e).stay (fun _ _ _ z => z) (fun c z => by rw [upd_ne (ne_of_none z d2)]; exact z) fun c ys z => by rw [upd_ne (ne_of_none z d2)]; exact z
    · have yb := (good.young b hb).1
      refine ⟨hn, ?_, young b yb, .inr yb, fun y c e z => ?_, fun p hp => absurd (show p ∈ ([] : List (Addr × Obj)) ++ [] from hp) (by simp)⟩
      · show b ≠ ce.locals
        rw [cL]
        simp only [List.mem_cons, List.mem_nil_iff, or_false] at hb
        rcases hb with rfl | rfl | rfl
        · exact Ne.symm c3
        · exact Ne.symm c4
        · exact Nat.ne_of_lt (Nat.lt_trans aD hCD)
      · rw [← z] at yb
        exact absurd (Nat.lt_of_lt_of_le (clt y c e).2.2 yb) (Nat.lt_irrefl _)
    · show i.l ≠ ce.locals
      rw [cL]; exact Ne.symm c5
    · have hm : i.l ∈ frs X.stack := hm
      obtain ⟨_, o, ho, _⟩ := I1.stack.mem hm
      have ho' : ∃ o, sc.heap.get? i.l = some o := ⟨o, ho⟩
      exact good.lf _ o ho (I1.stkFree _ hm) rfl
    · have yn : b ≠ D ∧ H2 b = none := by
        simp only [List.mem_cons, List.mem_nil_iff, or_false] at hb
        rcases hb with rfl | rfl | rfl | rfl
        · exact ⟨Ne.symm d3, (good.young _ (by simp)).2⟩
        · exact ⟨Ne.symm d4, (good.young _ (by simp)).2⟩
        · exact ⟨Ne.symm d5, good.ln⟩
        · exact ⟨Nat.ne_of_lt aD, (good.young _ (by simp)).2⟩
      rw [upd_ne yn.1]; exact yn.2
  have dep : X.A.depth < recursionLimit := by have := hr.dp; omega
  -- behind a stretch
  have rest : ∀ {i : TInfo} {xs : List V} {W : Nat → Nat → Hp → Prop} {j m n : Nat} {H5 : Hp} {e : End} {s5 : Shared} {E' : Value → Shared → Prop}, n + j = sizeLine + 1 → Vals xs i.items.toList → j ≤ xs.length → xs.length ≤ sizeLine → Own (X.blk sc H1 scope ce []) [] i a → (∀ b ∈ [i.L, i.it, i.l, a], H5 b = none) →
      Inv (X.blk sc H1 scope ce []) [] (wipe σ (own.map (·.2))) H5 (s5.setGen g0 e.genState) → W j m H5 →
      (∀ i m H, W i m H → ((ItG xs).stop i H ∧ Q (.ref D) H) ∨ ((ItG xs).go i H ∧ ∃ Nx : Hp → Prop, (∀ H', Nx H' → ∃ m', m' < m ∧ W (i + 1) m' H') ∧ ∀ x H', (ItG xs).yld i H x H' → g x (wipe σ (own.map (·.2))) H' fun σ2 H2 => wipe σ2 (own.map (·.2)) = wipe σ (own.map (·.2)) ∧ tt σ2 H2 fun b H3 =>
        if b = true then te σ2 H3 fun y H4 => ∃ acc, H4 D = some (.lst acc) ∧ acc.length < sizeLine ∧ Nx (upd H4 D (.lst (acc ++ [y]))) else Nx H3)) →
      ∀ v gd lv k c p fs, e = .susp v gd lv k c p fs → i.items[j]? = some v → RunAt X.prog X.w X.A.in1 i a g0 (j + 1) (s5.setGen g0 e.genState) →
      wpAny (model X.prog X.w) X.A (letOwnedTupleGo tg (.ref a) v) (fun _ s₁' => wpAny (model X.prog X.w) X.A (assign tg ce v) (fun _ s₂ =>
          wpAny (model X.prog X.w) X.A (forIn ifs true fun c r => if r = true then do let ok ← isTrue c ce (eval c ce); pure (ForInStep.yield ok) else pure (ForInStep.yield r)) (fun ok s₃ =>
            if ok = true then wpAny (model X.prog X.w) X.A (eval elt ce) (fun x s₄ =>
              wpAny (model X.prog X.w) X.A (call (.builtin "list.append") [.ref D, x]) (fun _ s₅ => ∃ m, m < n ∧ ((m = sizeLine + 2 ∧ s₅ = s4) ∨ LStage (X.blk sc H1 scope ce []) a D g0 Q g tt te (own.map (·.2)) σ m s₅)) E' s₄) E' s₃
            else ∃ m, m < n ∧ ((m = sizeLine + 2 ∧ s₃ = s4) ∨ LStage (X.blk sc H1 scope ce []) a D g0 Q g tt te (own.map (·.2)) σ m s₃)) E' s₂) E' s₁') E' (s5.setGen g0 e.genState) := by
    intro i xs W j m n H5 e s5 E' hnj hv hj hxl O hn I5 hw turn v gd lv k c p fs ee hiv R5
    obtain ⟨oa, nm, qn, ga, gb, gc, gd'⟩ := id R5.gen
    refine go_of ga gb gc (by decide) ?_
    have hjl : j < i.items.size := (Array.getElem?_eq_some_iff.mp hiv).1
    have hl : xs.length = i.items.size := by rw [← Array.length_toList]; exact hv.length
    obtain ⟨x, hx⟩ : ∃ x, xs[j]? = some x := ⟨xs[j]'(by omega), List.getElem?_eq_getElem (by omega)⟩
    obtain ⟨v', hv', rv⟩ := hv.get hx
    have : v' = v := by
      rw [Array.getElem?_toList] at hv'
      rw [hiv] at hv'
      exact (Option.some.inj hv').symm
    subst this
    rcases turn j m H5 hw with ⟨stop, _⟩ | ⟨_, Nx, hN', step⟩
    · exact absurd (show xs.length ≤ j from stop) (by omega)
    have fin : ∀ {s6 : Shared}, Fin (X.blk sc H1 scope ce []) i a g0 (j + 1) (own.map (·.2)) (wipe σ (own.map (·.2))) Nx s6 → ∃ m, m < n ∧ ((m = sizeLine + 2 ∧ s6 = s4) ∨ LStage (X.blk sc H1 scope ce []) a D g0 Q g tt te (own.map (·.2)) σ m s6) := fun {s6} ⟨σ8, H7, hw8, n7, I7, R7, f7⟩ => by
      obtain ⟨m', _, w7⟩ := hN' H7 n7
      refine ⟨n - 1, by omega, .inr ⟨i, xs, W, j + 1, m', H7, by omega, hv, by omega, hxl, O, f7, I7.weak (by rw [← hw8, wipe_length]) (fun q v e => ?_), R7, w7, turn⟩⟩
      rw [← hw8] at e
      exact (wipe_some e).1
    exact wpAny_mono (lc_turn (X := X.blk sc H1 scope ce []) (E' := E') (Nx := Nx) (D := D) (vs := own.map (·.2)) (fun _ _ z => z) pg pt pe I5 O R5 hn rv (step x H5 ⟨rfl, hx⟩)) (fun _ _ h => wpAny_mono h (fun b _ h => by
      cases b with
      | false =>
        simp only [Bool.false_eq_true, if_false] at h ⊢
        exact fin h
      | true =>
        simp only [if_true] at h ⊢
        exact wpAny_mono h (fun _ _ h => wpAny_mono h (fun _ _ h => fin h) fun _ _ z => z) fun _ _ z => z) fun _ _ z => z) fun _ _ z => z
  have done : ∀ {xs : List V} {W : Nat → Nat → Hp → Prop} {j m : Nat} {H5 : Hp} {s6 : Shared}, xs.length ≤ j → Inv (X.blk sc H1 scope ce []) [] (wipe σ (own.map (·.2))) H5 s6 → W j m H5 →
      (∀ i m H, W i m H → ((ItG xs).stop i H ∧ Q (.ref D) H) ∨ ((ItG xs).go i H ∧ ∃ Nx : Hp → Prop, (∀ H', Nx H' → ∃ m', m' < m ∧ W (i + 1) m' H') ∧ ∀ x H', (ItG xs).yld i H x H' → g x (wipe σ (own.map (·.2))) H' fun σ2 H2 => wipe σ2 (own.map (·.2)) = wipe σ (own.map (·.2)) ∧ tt σ2 H2 fun b H3 =>
        if b = true then te σ2 H3 fun y H4 => ∃ acc, H4 D = some (.lst acc) ∧ acc.length < sizeLine ∧ Nx (upd H4 D (.lst (acc ++ [y]))) else Nx H3)) → compPost (model X.prog X.w) X.A X.xe use Qf (.ref D) C (.ok .next) s6 := fun {xs W j m H5 s6} hj I6 hw turn => by
    rcases turn j m H5 hw with ⟨_, q⟩ | ⟨go, _⟩
    · have I7 : Inv X pins σ H5 s6 := I1.call' (ch := []) I6.os I6.base I6.hok I6.bare fun b hb => by simp at hb
      have nC : H5 C = none := by
        have z : H5 ce.locals = none := I6.free
        rw [cL] at z
        exact z
      obtain ⟨m, hn, _⟩ := I6.loc
      have hn : s6.heap.Ns ce.locals m := hn
      rw [cL] at hn
      exact hRR D C s6 m H5 I7 q hn (I1.fpOk (Nat.le_trans scD (Nat.le_of_lt hCD)) nC)
    · exact absurd (show j < xs.length from go) (by omega)
  have ext : ∀ {H5 : Hp} {s5 : Shared} {h' : Heap}, Inv (X.blk sc H1 scope ce []) [] (wipe σ (own.map (·.2))) H5 s5 → (∀ b o, s5.heap.get? b = some o → h'.get? b = some o) → Inv (X.blk sc H1 scope ce []) [] (wipe σ (own.map (·.2))) H5 { s5 with heap := h' } := fun {H5 s5 h'} I5 hk =>
    I5.call' (s' := { s5 with heap := h' }) (ch := []) rfl (Un.kept hk) (I5.hok.kept hk) I5.bare fun b z => by simp at z
  have loop : codeAny (model X.prog X.w) X.A (.compLoop (.ListComp elt [⟨tg, iter, ifs, 0⟩] scope pos) 0 (.ref a) (.ref D) ce) (compPost (model X.prog X.w) X.A X.xe use Qf (.ref D) C) s4 := by
    refine compLoop_any (fun n s' => (n = sizeLine + 2 ∧ s' = s4) ∨ LStage (X.blk sc H1 scope ce []) a D g0 Q g tt te (own.map (·.2)) σ n s') ?_ (sizeLine + 2) (.inl ⟨rfl, rfl⟩)
    rintro n s5 (⟨rfl, e5⟩ | st)
    · subst e5
      have hgs5 : s5.gens[g0]? = some (.fresh c) := by rw [g4]; exact hgs
      have hba5 : AllBare s5.gens := by rw [g4]; exact hba
      have hgsz : g0 < s5.gens.size := (Array.getElem?_eq_some_iff.mp hgs5).1
      have wk : GoesQ (model X.prog X.w) X.A.in1 (TEnd X.prog X.w X.A.in1 X.stack H1 sc a g0 [(D, { cls := .type "list", data := .seq ([] : List Value).toArray }), (C, { cls := .type "dict", data := .dict #[] })] _) (.fresh c) (s5.setGen g0 .running) := wake X.A.in1 (s5.setGen g0 .running) [(D, { cls := .type "list", data := .seq ([] : List Value).toArray }), (C, { cls := .type "dict", data := .dict #[] })] hr.in1 I1.ok.frames k14 (o4.trans hos) (allBare_setGen hba5 rfl) fun p hp => by
        rcases List.mem_cons.mp hp with z | z
        · rw [z]
          exact ⟨obD, Nat.le_of_eq hD, fun v q => by cases q⟩
        · rw [List.mem_singleton.mp z]
          exact ⟨obC, Nat.le_trans (Nat.le_of_eq hD) (Nat.le_of_lt hCD), fun v q => by cases q⟩
      refine wpAny_gsz (n := g0 + 1) hgsz (next_Φ hh (hlim.keeps k14) dep (hga.keeps k14) hgs5 wk (fun v gd lv k c p fs s₁ he => ?_) fun x s₁ he => ?_)
      · obtain ⟨i, H2, xs, good, he⟩ := he
        obtain ⟨nD, I2, O, hn⟩ := known good
        obtain ⟨W, ⟨m, w0⟩, turn⟩ := good.q D nD
        obtain ⟨q1, q2, q3, q4⟩ := after_seg (j := 0) I2 O hn good.gen (Nat.zero_le _) he
        refine ⟨q1, fun hsz => ?_⟩
        rw [setGen_size] at hsz
        exact rest (n := sizeLine + 1) rfl good.vals (Nat.zero_le _) good.len O hn q2 w0 turn v gd lv k c p fs rfl q3 (q4 (by omega)) |> fun h => wpAny_mono h (fun _ _ h => wpAny_mono h (fun _ _ h => wpAny_mono h (fun b _ h => by
          cases b with
          | false =>
            simp only [Bool.false_eq_true, if_false] at h ⊢
            obtain ⟨m, h1, h2⟩ := h
            exact ⟨m, by omega, h2⟩
          | true =>
            simp only [if_true] at h ⊢
            exact wpAny_mono h (fun _ _ h => wpAny_mono h (fun _ _ ⟨m, h1, h2⟩ => ⟨m, by omega, h2⟩) fun _ _ z => z) fun _ _ z => z) fun _ _ z => z) fun _ _ z => z) fun _ _ z => z
      · obtain ⟨i, H2, xs, good, he⟩ := he
        obtain ⟨nD, I2, O, hn⟩ := known good
        obtain ⟨W, ⟨m, w0⟩, turn⟩ := good.q D nD
        obtain ⟨q1, q2, q3, q4⟩ := after_seg (j := 0) I2 O hn good.gen (Nat.zero_le _) he
        have hl : xs.length = i.items.size := by rw [← Array.length_toList]; exact good.vals.length
        exact ⟨q3, fun h' hk hsz => done (by omega) (ext q2 hk) w0 turn⟩
    · obtain ⟨i, xs, W, j, m, H5, hnj, hv, hj, hxl, O, hn, I5, R5, hw, turn⟩ := st
      obtain ⟨gs, hgs5, hsus, hgo⟩ := R5.go
      have hl : xs.length = i.items.size := by rw [← Array.length_toList]; exact hv.length
      have hgsz : g0 < s5.gens.size := (Array.getElem?_eq_some_iff.mp hgs5).1
      have I0 : Inv (X.blk sc H1 scope ce []) [] (wipe σ (own.map (·.2))) H5 (s5.setGen g0 .running) := I5.regen rfl rfl (allBare_setGen I5.bare rfl)
      refine wpAny_gsz (n := g0 + 1) hgsz (next_Φ (Φ := fun e s1 => SegEnd (TR i.L i.it) (TY i.L i.it i.l i.items) (i.items.size - j) (Seg.next (model X.prog X.w) X.A.in1 (TR i.L i.it) (TY i.L i.it i.l i.items) (i.items.size - j)) (s5.setGen g0 .running) e s1) hh I5.nolimit dep R5.gen hgs5 ?_ (fun v gd lv k c p fs s₁ he => ?_) fun x s₁ he => ?_)
      · obtain ⟨_, _, _, _, _, _, rfl⟩ := hsus
        exact segq_of (hgo (s5.setGen g0 .running) R5.st) fun _ _ z => z
      · obtain ⟨q1, q2, q3, q4⟩ := after_seg I0 O hn R5.gen (by omega) he
        refine ⟨q1, fun hsz => ?_⟩
        rw [setGen_size] at hsz
        exact rest hnj hv hj hxl O hn q2 hw turn v gd lv k c p fs rfl q3 (q4 (by omega))
      · obtain ⟨q1, q2, q3, q4⟩ := after_seg I0 O hn R5.gen (by omega) he
        exact ⟨q3, fun h' hk hsz => done (by omega) (ext q2 hk) hw turn⟩
  exact codeAny_compStart_list loop (wpAny_pyIter_gen (hga.keeps k14) loop)
/-- as a value -/
theorem pe_lcT {X : Cx} {k : Nat} {elt tg iter : Expr} {ifs : List Expr} {scope : Scope} {own : List (Str × Nat)} {pos : Pos} {tgn : TGen} {g : TG} {tt : TT} {te : TE} (hh : X.A.handled = none) (hr : Room (k + 1) X.A) (hN : X.N.Nodup) (hi : PGenT X k iter tgn) (ok : BlkOk X.N X.env.scope scope own) (hnc : ∀ y ∈ scope.names, y.2 ≠ .cell)
    (hg : ∀ (s : Shared) (H : Hp) (C : Addr) (cl : List (Str × Addr)) (fp : List Addr), PG (X.blk s H scope (compEnvC scope cl C X.env) fp) tg g) (ht : ∀ (s : Shared) (H : Hp) (C : Addr) (cl : List (Str × Addr)) (fp : List Addr), PTs (X.blk s H scope (compEnvC scope cl C X.env) fp) ifs tt)
    (he : ∀ (s : Shared) (H : Hp) (C : Addr) (cl : List (Str × Addr)) (fp : List Addr), PE (X.blk s H scope (compEnvC scope cl C X.env) fp) elt te) (hs : ∀ x, foldedSetIterable iter X.env x = pure x := by intro _; rfl) :
    PE X (.ListComp elt [⟨tg, iter, ifs, 0⟩] scope pos) (tLc (tItG tgn) g tt te (own.map (·.2))) := by
  refine ⟨fun pins s σ H Q I h => ?_⟩
  rw [eval_ListComp]
  refine lc_coreT hh hr hN I hi ok hnc hg ht he hs h fun D C s' m H' I' q hn f => ⟨m, hn, fun h'' sb => ?_⟩
  obtain ⟨f0, f1, f2, f3, f4, f5⟩ := f
  exact ⟨.ref D, H', I'.turned (t' := s'.toks) (fun b o hb e => (sb.2 b hb).trans e) f0 f1 f3 f4 f5, rfl, q⟩
end L2
set_option Elab.async false
set_option linter.all false
set_option maxRecDepth 100000
set_option maxHeartbeats 2000000
/-! DlGen: generators in the layer of data. -/
namespace L2
open PySem PySem.Spec PyProof.Rows GenW
section
variable {X : Cx} {k : Nat} {f C : Addr} {fd : FuncData} {ps : List Str} {sp : SpT} {x m : Str} {p pos pos' apos : Pos} {o : Expr} {ta : TE}
theorem run_tfn {pins : List (Addr × Obj)} {σ : L2.St} {H : Hp} {s : Shared} {us : List Value} {vs : List V} {cont : List V → Hp → Prop} {E1 : Value → Shared → Prop} (F : TFn X.prog X.w X.K X.mg X.base k f fd ps sp) (hr : Room k X.A) (hb : Binds X.K fd ps [])
    (I : Inv X pins σ H s) (r : Vals vs us) (h : sp vs H cont) : wpAny (model X.prog X.w) X.A (call (.ref f) us) (fun u s' => ∃ H1 sc, Inv X pins σ H1 sc ∧ TMade X.prog X.w k X.stack H1 sc cont u s') E1 s := by
  have hl2 : (us ++ []).length = ps.length := by rw [List.append_nil, ← r.length]; exact F.len _ _ _ h
  refine wpAny_call (codeAny_mono (F.run X.A X.stack s H ⟨us, []⟩ (us ++ []) vs cont hr I.env0 (hb s us I.kIn hl2) (by rw [List.append_nil]; exact r) h) fun r s' hq => ?_)
  cases r with
  | error e => exact False.elim hq
  | ok fl =>
    cases fl with
    | ret u => exact ⟨H, s, I, hq⟩
    | next => exact False.elim hq
    | brk => exact False.elim hq
    | cont => exact False.elim hq
def tMethT (C : Addr) (m : Str) (sp : SpT) (ta : TE) (t : TA) : TGen := fun σ H cont => ta σ H fun x H1 => ∃ a dx fs, x = .ref a ∧ H1 a = some (.ins C dx fs) ∧ fs.lookup m = none ∧ t σ H1 fun vs H2 => sp (x :: vs) H2 cont
theorem pgenT_meth0 {pl : Sem Bool} (he : PE X o ta) (c : Cls X.K C) (hm : Meth X.K C m f) (F : TFn X.prog X.w X.K X.mg X.base k f fd ps sp) (hr : Room k X.A) (hb : Binds X.K fd ps [])
    (ht : eval (.Call (.Attribute o m apos) [] [] pos') X.env = (do
      let ov ← eval o X.env
      standAt apos.atName
      let (f, first) ← holding [ov] (getMethod ov m pl)
      callWith pos' f first (backTo pos' (starEach [] X.env)) (backToKw pos' (keywordEach [] X.env))) := by rfl) :
    PGenT X k (.Call (.Attribute o m apos) [] [] pos') (tMethT C m sp ta tNil) := by
  refine ⟨fun pins s σ H cont I h => ?_⟩
  refine PySem.W.methodCall_KW (pl := pl) (thn (he.run pins s σ H _ I h) fun u s1 ⟨x, H1, I1, rx, a, dx, fs, ex, ea, l, q⟩ => ?_) ht
  subst ex
  obtain rfl : u = Value.ref a := rx
  refine getmeth_ok I1 ea c hm l ?_
  exact PySem.W.callWith_K0 (first := [.ref a]) I1.kIn hm.kp (run_tfn (us := [.ref a]) (vs := [.ref a]) F hr hb I1 (.cons rfl .nil) q)
def tCallT (sp : SpT) (t : TA) : TGen := fun σ H cont => t σ H fun vs H1 => sp vs H1 cont
theorem pgenT_call {e : Expr} {es : List Expr} {t : TA} (F : TFn X.prog X.w X.K X.mg X.base k f fd ps sp) (hr : Room k X.A) (hg : Gl X x) (hm : X.mg x = some (.ref f)) (hk : PySem.W.keepIn X.K (.ref f) = true) (hb : Binds X.K fd ps [])
    (ha : PA X (e :: es) t) (hdb : (x == ("__debug__" : Str)) = false := by decide) (he : starEach (e :: es) X.env = (false, eval e X.env) :: starEach es X.env := by rfl) (hpl : (backTo pos' (starEach es X.env)).any (·.1) = false := by rfl) :
    PGenT X k (.Call (.Name x p) (e :: es) [] pos') (tCallT sp t) := by
  refine ⟨fun pins s σ H cont I h => ?_⟩
  refine wpAny_Call_Name_kw (ld_glob I hg hm ?_ hdb)
  refine PySem.W.callWith_K (h₀ := X.base) I.ok.mod.kin hk (thn (ha.run pos' pins s σ H _ I h) fun us s1 ⟨vs, H1, I1, r, q⟩ => ⟨I1.kIn, ?_⟩) he hpl
  exact run_tfn F hr hb I1 r q
end
theorem Fun.okT {P : Program} {w : World} {K : PySem.W.Frag} {mg : Str → Option Value} {base : Heap} {x qual : Str} {st : Stmt} {f : Addr} {fd : FuncData} {N ps : List Str} {k : Nat} {sp : SpT} {pre : List Stmt} {y : Str} {tp yp1 yp pos1 pos : Pos} {iter : Expr} (F : Fun K x qual st f fd) (S : GScope N ps (defScope st))
    (hbd : defBody st = pre ++ [.For (.Name y tp) iter [.Expr (.Yield (some (.Name y yp1)) yp) pos1] [] pos]) (hx : (defScope st).names.lookup y = some .local) (hxd : (y == ("__debug__" : Str)) = false) (hs : ∀ (env : Env) v, foldedSetIterable iter env v = pure v)
    (len : ∀ vs H Q, sp vs H Q → vs.length = ps.length)
    (hbody : ∀ (cdv : Value) (A : Around) (outer : List Env) (s : Shared) (H : Hp) (vs : List V) (Q : List V → Hp → Prop) (pn : List (Addr × Obj)), Room k (A.deeper (envOfC qual (defScope st) s.heap.objs.size f cdv)) → sp vs H Q →
      ∃ t te, PSs (tcxOf P w K mg base N qual (defScope st) f cdv A outer s H pn) pre t ∧ PE (tcxOf P w K mg base N qual (defScope st) f cdv A outer s H pn) iter te ∧
        t { nx := fun σ H' => te σ H' fun v H1 => ∃ l xs, v = .ref l ∧ H1 l = some (.lst xs) ∧ Q xs (era H1 l), rt := fun _ _ => False } (start N vs) H) : TFn P w K mg base (k + 1) f fd ps sp := by
  obtain ⟨oc, od, kV, doc, pm, an, cdv, ct, osl, rfl, lk, hcd⟩ := F.ex
  exact tfn_of lk hcd S hbd hx hxd hs len fun A outer s H vs Q pn hr hsp => hbody cdv A outer s H vs Q pn hr hsp
end L2
namespace Dl
open PySem PySem.Spec PyProof.Rows L2
/-- a generator's promise: what it hands out -/
def spT (S : List D → (List D → Prop) → Prop) (K : PySem.W.Frag) : SpT := fun vs H Q => ∃ M ds T, Ats K (hid M H) vs ds ∧ (∀ a ∈ M, ∃ o, H a = some o) ∧ S ds T ∧ ∀ xs es H', T es → Same H H' → Ats K (hid M H') xs es → Q xs H'
def DfT (P : Program) (w : World) (K : PySem.W.Frag) (mg : Str → Option Value) (base : Heap) (x : Str) (k : Nat) (ps : List Str) (sp : SpT) : Prop :=
  ∃ f fd, TFn P w K mg base k f fd ps sp ∧ mg x = some (.ref f) ∧ PySem.W.keepIn K (.ref f) = true ∧ Binds K fd ps []
def DmT (P : Program) (w : World) (K : PySem.W.Frag) (mg : Str → Option Value) (base : Heap) (C : Addr) (m : Str) (k : Nat) (ps : List Str) (sp : SpT) : Prop :=
  Cls K C ∧ ∃ f fd, TFn P w K mg base k f fd ps sp ∧ Meth K C m f ∧ Binds K fd ps []
theorem pg_callD {X : Cx} {k : Nat} {ps : List Str} {sp : SpT} {x : Str} {p pos : Pos} {e : Expr} {es : List Expr} {t : TA} (h : DfT X.prog X.w X.K X.mg X.base x k ps sp) (hr : Room k X.A) (hg : Gl X x) (ha : PA X (e :: es) t) (hdb : (x == ("__debug__" : Str)) = false := by decide)
    (he : starEach (e :: es) X.env = (false, eval e X.env) :: starEach es X.env := by rfl) (hpl : (backTo pos (starEach es X.env)).any (·.1) = false := by rfl) : PGenT X k (.Call (.Name x p) (e :: es) [] pos) (tCallT sp t) := by
  obtain ⟨f, fd, G, hm, hk, hb⟩ := h
  exact pgenT_call G hr hg hm hk hb ha hdb he hpl
theorem pg_methD0 {X : Cx} {C : Addr} {k : Nat} {m : Str} {ps : List Str} {sp : SpT} {apos pos : Pos} {o : Expr} {te : TE} {pl : Sem Bool} (h : DmT X.prog X.w X.K X.mg X.base C m k ps sp) (hr : Room k X.A) (ho : PE X o te)
    (ht : eval (.Call (.Attribute o m apos) [] [] pos) X.env = (do
      let ov ← eval o X.env
      standAt apos.atName
      let (f, first) ← holding [ov] (getMethod ov m pl)
      callWith pos f first (backTo pos (starEach [] X.env)) (backToKw pos (keywordEach [] X.env))) := by rfl) :
    PGenT X k (.Call (.Attribute o m apos) [] [] pos) (tMethT C m sp te tNil) := by
  obtain ⟨c, f, fd, G, hm, hb⟩ := h
  exact pgenT_meth0 ho c hm G hr hb ht
section
variable {F : Fm} {ks : List Kd}
/-- the outer name of two clauses -/
theorem gw_nameT {i j : Nat} {d : D} : GW F (gName i) [i, j] ks d (((ks.set j .any).set i .any).set i (.dat d)) := fun M σ H v o a Q q => by
  show Q (((σ.set j none).set i none).set i (some v)) H
  refine q _ (((o.setA (i := j) (v := none)).setA (i := i) (v := none)).setD a) ?_ fun m k g1 g2 => ?_
  · show ((((σ.set j none).set i none).set i (some v)).set j none).set i none = (σ.set j none).set i none
    apply List.ext_getElem?
    intro k
    simp only [List.getElem?_set, List.length_set]
    by_cases e1 : i = k <;> by_cases e2 : j = k <;> simp [e1, e2]
  · rcases getK g1 with ⟨rfl, l, z⟩ | ⟨n, z⟩
    · rw [← z] at g2; cases g2
    · rcases getK z with ⟨e, l, z⟩ | ⟨n2, z⟩
      · exact absurd e n
      · rcases getK z with ⟨rfl, l, z⟩ | ⟨n3, z⟩
        · rw [← z] at g2; cases g2
        · exact ⟨z, by rw [List.getElem?_set_ne n, List.getElem?_set_ne n2, List.getElem?_set_ne n3]⟩
theorem itg_ok {xs : List V} {es : List D} : ItOk F (ItG xs) es (fun G => Ats F.K G xs es) where
  mono := fun G G' e h => h.mono e
  go := fun M H i h l => by rw [← h.length] at l; exact l
  yld := fun M H i x H' d _ h e y => by
    obtain ⟨rfl, y⟩ := y
    obtain ⟨u, h1, h2⟩ := h.get e
    rw [y] at h1
    cases h1
    exact ⟨fun _ _ z => z, h2⟩
  stop := fun M H h => by
    show xs.length ≤ es.length
    rw [h.length]; exact Nat.le_refl _
theorem gen_callR {S : List D → (List D → Prop) → Prop} {ta : TA} {Ra : List D → Prop} {R : List D → Prop} (h : EvAR F ks ta Ra) (hS : ∀ ds, Ra ds → ∃ T, S ds T ∧ ∀ d, T d → R d) {M : List Addr} {σ : Sg} {H : Hp} (o : Ok F ks M σ H) {cont : List V → Hp → Prop}
    (q : ∀ xs es H', Ok F ks M σ H' → Step ks σ H H' → Ats F.K (hid M H') xs es → R es → cont xs H') : tCallT (spT S F.K) ta σ H cont := h M σ H o _ fun vs ds H1 o1 s1 a1 e => by
  obtain ⟨T, hT, i⟩ := hS ds e
  exact ⟨M, ds, T, a1, o1.live, hT, fun xs es H' t sm a => q xs es H' (o1.same sm) (s1.trans (.of sm)) a (i es t)⟩
theorem gen_meth {S : List D → (List D → Prop) → Prop} {te : TE} {ta : TA} {C : Addr} {m : Str} {gs : List (Str × D)} {es : List D} {T : List D → Prop} (h : Ev F ks te (.ins C gs)) (hl : gs.lookup m = none) (ha : EvA F ks ta es) (hS : S (.ins C gs :: es) T) {M : List Addr} {σ : Sg} {H : Hp} (o : Ok F ks M σ H) {cont : List V → Hp → Prop}
    (q : ∀ xs es H', Ok F ks M σ H' → Step ks σ H H' → Ats F.K (hid M H') xs es → T es → cont xs H') : tMethT C m (spT S F.K) te ta σ H cont := h M σ H o _ fun v d0 H1 o1 s1 a1 e1 => by
  subst e1
  cases a1 with
  | ins h1 h2 h3 =>
    refine ⟨_, _, _, rfl, hid_same _ _ h1, h3.none hl, ha M σ H1 o1 _ fun vs ds H2 o2 s2 a2 e2 => ?_⟩
    subst e2
    have mn := o1.hidStep s2
    have a0 : At F.K (hid M H2) (.ref _) (.ins C gs) := At.mono mn (.ins h1 h2 h3)
    exact ⟨M, .ins C gs :: ds, T, .cons a0 a2, o2.live, hS, fun xs es H' t sm a => q xs es H' (o2.same sm) (s1.trans (s2.trans (.of sm))) a t⟩
theorem ei_genR {S : List D → (List D → Prop) → Prop} {ta : TA} {Ra : List D → Prop} {R : List D → Prop} (h : EvAR F ks ta Ra) (hS : ∀ ds, Ra ds → ∃ T, S ds T ∧ ∀ d, T d → R d) : EvIR F ks (tItG (tCallT (spT S F.K) ta)) R := fun M σ H o Q q =>
  gen_callR h hS o fun xs es H' o' s' a t => q (ItG xs) _ es H' o' s' t itg_ok a
theorem ei_gen {S : List D → (List D → Prop) → Prop} {ta : TA} {ds : List D} {T : List D → Prop} (h : EvA F ks ta ds) (hS : S ds T) : EvIR F ks (tItG (tCallT (spT S F.K) ta)) T := ei_genR h fun es e => ⟨T, by rw [e]; exact hS, fun _ t => t⟩
theorem ei_genM {S : List D → (List D → Prop) → Prop} {te : TE} {ta : TA} {C : Addr} {m : Str} {gs : List (Str × D)} {es : List D} {T : List D → Prop} (h : Ev F ks te (.ins C gs)) (hl : gs.lookup m = none) (ha : EvA F ks ta es) (hS : S (.ins C gs :: es) T) : EvIR F ks (tItG (tMethT C m (spT S F.K) te ta)) T := fun M σ H o Q q =>
  gen_meth h hl ha hS o fun xs es H' o' s' a t => q (ItG xs) _ es H' o' s' t itg_ok a
theorem el_of_gen {tg : TGen} {R : List D → Prop} (h : ∀ M σ H, Ok F ks M σ H → ∀ cont : List V → Hp → Prop, (∀ xs es H', Ok F ks M σ H' → Step ks σ H H' → Ats F.K (hid M H') xs es → R es → cont xs H') → tg σ H cont) : EvLR F ks (tListT tg) R := fun M σ H o Q q =>
  h M σ H o _ fun xs es H' o' s' a t p hp => by
    have e : hid (p :: M) (upd H' p (.lst xs)) = hid M H' := hid_new hp
    refine q p xs es (upd H' p (.lst xs)) ?_ (o'.hide hp) (s'.trans (.of (same_new hp))) upd_same (by rw [e]; exact a) t
    cases z : H p with
    | none => rfl
    | some u =>
      have := s' p u z (o'.noOwn hp)
      rw [hp] at this
      cases this
theorem el_listT {S : List D → (List D → Prop) → Prop} {ta : TA} {ds : List D} {T : List D → Prop} (h : EvA F ks ta ds) (hS : S ds T) : EvLR F ks (tListT (tCallT (spT S F.K) ta)) T :=
  el_of_gen fun M σ H o cont q => gen_callR (R := T) h (fun es e => ⟨T, by rw [e]; exact hS, fun _ t => t⟩) o q
theorem el_listM {S : List D → (List D → Prop) → Prop} {te : TE} {ta : TA} {C : Addr} {m : Str} {gs : List (Str × D)} {es : List D} {T : List D → Prop} (h : Ev F ks te (.ins C gs)) (hl : gs.lookup m = none) (ha : EvA F ks ta es) (hS : S (.ins C gs :: es) T) : EvLR F ks (tListT (tMethT C m (spT S F.K) te ta)) T :=
  el_of_gen fun M σ H o cont q => gen_meth h hl ha hS o q
end
section
variable {K : PySem.W.Frag} {H : Hp} {M : List Addr} {ks : List Kd} {Q : List V → Hp → Prop} {T : List D → Prop}
theorem same_era {H0 H' : Hp} {p : Addr} (s : Same H0 H') (n : H0 p = none) : Same H0 (era H' p) := fun b u e => by
  rw [era_ne fun z => by rw [z, n] at e; cases e]
  exact s b u e
theorem hid_era {H' : Hp} {M M' : List Addr} {p : Addr} (h : ∀ a ∈ M, a ∈ M') (hp : p ∈ M') : Same (hid M' H') (hid M (era H' p)) := fun a u e => by
  obtain ⟨h1, h2⟩ := hid_some e
  rw [hid_out fun z => h1 (h a z), era_ne fun z => h1 (by rw [z]; exact hp)]
  exact h2
/-- the end of a generator's text: for x in <a new list>: yield x -/
theorem gen_endL {te : TE} (h : EvLR ⟨K, H, hid M H, M⟩ ks te T) (q : ∀ xs es H', T es → Same H H' → Ats K (hid M H') xs es → Q xs H') : Cont ⟨K, H, hid M H, M⟩ ks (fun σ H' => te σ H' fun v H1 => ∃ l xs, v = .ref l ∧ H1 l = some (.lst xs) ∧ Q xs (era H1 l)) := fun M' σ H' o =>
  h M' σ H' o _ fun p vs ds H1 hn o1 s1 l a t => by
    have n0 : H p = none := o.base.free hn
    exact ⟨p, vs, rfl, l, q vs ds _ t (same_era o1.base n0) (a.mono (hid_era (fun a z => o1.sup a z) List.mem_cons_self))⟩
/-- .. for x in xs: yield x, xs a list of its own -/
theorem gen_endO {i : Nat} {φ : List D → Prop} (hk : ks[i]? = some (.own φ)) (hφ : ∀ es, φ es → T es) (q : ∀ xs es H', T es → Same H H' → Ats K (hid M H') xs es → Q xs H') : Cont ⟨K, H, hid M H, M⟩ ks (fun σ H' => tVar i σ H' fun v H1 => ∃ l xs, v = .ref l ∧ H1 l = some (.lst xs) ∧ Q xs (era H1 l)) := fun M' σ H' o => by
  obtain ⟨p, _, h1, h2, h3, vs, ds, h4, h5, h6⟩ := o.own i φ hk
  exact ⟨.ref p, h1, p, vs, rfl, h4, q vs ds _ (hφ ds h6) (same_era o.base h3) (h5.mono (hid_era o.sup h2))⟩
end
end Dl
set_option Elab.async false
set_option linter.all false
set_option maxRecDepth 100000
set_option maxHeartbeats 4000000
namespace Dl
open PySem PySem.Spec PyProof.Rows L2
local macro_rules | `(tactic| walk_at "ks") => `(tactic| (repeat (first | exact ksle_nil | refine ksle_cons (by first | exact KLe.refl _ | exact True.intro) ?_)))
abbrev topS (i : Nat) : Stmt := PySem.Challenge.pw_algebraparts_k04_whole_spaces.main.body.getD i (.Pass ⟨0, 0, 0, 0⟩)
abbrev s_inverse : Stmt := topS 4
theorem sc_inverse : FnScope ["a", "p", "k"] ["a", "p"] (defScope s_inverse) := ⟨rfl, rfl, rfl, by decide +kernel, rfl, by decide +kernel, by decide +kernel⟩
abbrev s_add : Stmt := topS 6
theorem sc_add : FnScope ["v", "w", "p", "x", "y"] ["v", "w", "p"] (defScope s_add) := ⟨rfl, rfl, rfl, by decide +kernel, rfl, by decide +kernel, by decide +kernel⟩
abbrev s_scaled : Stmt := topS 7
theorem sc_scaled : FnScope ["v", "a", "p", "x"] ["v", "a", "p"] (defScope s_scaled) := ⟨rfl, rfl, rfl, by decide +kernel, rfl, by decide +kernel, by decide +kernel⟩
abbrev s_cleared : Stmt := topS 8
theorem sc_cleared : FnScope ["row", "head", "at", "p", "x", "y"] ["row", "head", "at", "p"] (defScope s_cleared) := ⟨rfl, rfl, rfl, by decide +kernel, rfl, by decide +kernel, by decide +kernel⟩
abbrev s_reduced : Stmt := topS 9
theorem sc_reduced : FnScope ["rows", "width", "p", "left", "found", "pivots", "at", "heads", "head", "row", "k"] ["rows", "width", "p"] (defScope s_reduced) := ⟨rfl, rfl, rfl, by decide +kernel, rfl, by decide +kernel, by decide +kernel⟩
abbrev s_span : Stmt := topS 10
theorem sc_span : FnScope ["rows", "width", "p"] ["rows", "width", "p"] (defScope s_span) := ⟨rfl, rfl, rfl, by decide +kernel, rfl, by decide +kernel, by decide +kernel⟩
abbrev s_kernel : Stmt := topS 11
theorem sc_kernel : FnScope ["rows", "width", "p", "table", "pivots", "found", "free", "row", "line", "at"] ["rows", "width", "p"] (defScope s_kernel) := ⟨rfl, rfl, rfl, by decide +kernel, rfl, by decide +kernel, by decide +kernel⟩
abbrev s_sum_of : Stmt := topS 12
theorem sc_sum_of : FnScope ["a", "b", "width", "p"] ["a", "b", "width", "p"] (defScope s_sum_of) := ⟨rfl, rfl, rfl, by decide +kernel, rfl, by decide +kernel, by decide +kernel⟩
abbrev s_common_part : Stmt := topS 13
theorem sc_common_part : FnScope ["a", "b", "width", "p"] ["a", "b", "width", "p"] (defScope s_common_part) := ⟨rfl, rfl, rfl, by decide +kernel, rfl, by decide +kernel, by decide +kernel⟩
abbrev s_members : Stmt := topS 14
theorem sc_members : GScope ["space", "width", "p", "found", "row", "v", "a"] ["space", "width", "p"] (defScope s_members) := ⟨rfl, rfl, rfl, by decide +kernel, rfl, by decide +kernel, by decide +kernel⟩
abbrev s__law_state : Stmt := topS 16
theorem sc__law_state : FnScope ["_law_script", "_law_seed", "_law_total", "_law_cell"] ["_law_script"] (defScope s__law_state) := ⟨rfl, rfl, rfl, by decide +kernel, rfl, by decide +kernel, by decide +kernel⟩
abbrev s__law_take : Stmt := topS 17
theorem sc__law_take : FnScope ["_law_state_here", "_law_m", "_law_value"] ["_law_state_here", "_law_m"] (defScope s__law_take) := ⟨rfl, rfl, rfl, by decide +kernel, rfl, by decide +kernel, by decide +kernel⟩
abbrev s__law_sum : Stmt := topS 18
theorem sc__law_sum : FnScope ["_law_v", "_law_w", "_law_p", "_law_k"] ["_law_v", "_law_w", "_law_p"] (defScope s__law_sum) := ⟨rfl, rfl, rfl, by decide +kernel, rfl, by decide +kernel, by decide +kernel⟩
abbrev s__law_scaled : Stmt := topS 19
theorem sc__law_scaled : FnScope ["_law_v", "_law_a", "_law_p", "_law_x"] ["_law_v", "_law_a", "_law_p"] (defScope s__law_scaled) := ⟨rfl, rfl, rfl, by decide +kernel, rfl, by decide +kernel, by decide +kernel⟩
abbrev s__law_zero : Stmt := topS 20
theorem sc__law_zero : FnScope ["_law_n", "_law_k"] ["_law_n"] (defScope s__law_zero) := ⟨rfl, rfl, rfl, by decide +kernel, rfl, by decide +kernel, by decide +kernel⟩
abbrev s__law_element : Stmt := topS 21
theorem sc__law_element : FnScope ["_law_state_here", "_law_p", "_law_n", "_law_k"] ["_law_state_here", "_law_p", "_law_n"] (defScope s__law_element) := ⟨rfl, rfl, rfl, by decide +kernel, rfl, by decide +kernel, by decide +kernel⟩
abbrev s__law_span : Stmt := topS 22
theorem sc__law_span : FnScope ["_law_rows_here", "_law_n", "_law_p", "_law_found", "_law_row", "_law_longer", "_law_word", "_law_a"] ["_law_rows_here", "_law_n", "_law_p"] (defScope s__law_span) := ⟨rfl, rfl, rfl, by decide +kernel, rfl, by decide +kernel, by decide +kernel⟩
abbrev s__law_in_form : Stmt := topS 23
theorem sc__law_in_form : FnScope ["_law_told", "_law_n", "_law_last", "_law_i", "_law_heads", "_law_k", "_law_j"] ["_law_told", "_law_n"] (defScope s__law_in_form) := ⟨rfl, rfl, rfl, by decide +kernel, rfl, by decide +kernel, by decide +kernel⟩
abbrev s__law_shows : Stmt := topS 24
theorem sc__law_shows : FnScope ["_law_told", "_law_words", "_law_n", "_law_p"] ["_law_told", "_law_words", "_law_n", "_law_p"] (defScope s__law_shows) := ⟨rfl, rfl, rfl, by decide +kernel, rfl, by decide +kernel, by decide +kernel⟩
abbrev s__law_prime : Stmt := topS 25
theorem sc__law_prime : FnScope ["_law_state_here"] ["_law_state_here"] (defScope s__law_prime) := ⟨rfl, rfl, rfl, by decide +kernel, rfl, by decide +kernel, by decide +kernel⟩
abbrev s__law_rows : Stmt := topS 26
theorem sc__law_rows : FnScope ["_law_state_here", "_law_p", "_law_n", "_law_most", "_law_k"] ["_law_state_here", "_law_p", "_law_n", "_law_most"] (defScope s__law_rows) := ⟨rfl, rfl, rfl, by decide +kernel, rfl, by decide +kernel, by decide +kernel⟩
abbrev s_law : Stmt := topS 27
theorem sc_law : FnScope ["_law_script", "_law_state_here", "_law_p", "_law_n", "_law_first", "_law_second", "_law_one", "_law_two", "_law_a", "_law_b", "_law_wide", "_law_part", "_law_v"] ["_law_script"] (defScope s_law) := ⟨rfl, rfl, rfl, by decide +kernel, rfl, by decide +kernel, by decide +kernel⟩
structure Bl (mg : Str → Option Value) : Prop where
  b_range : mg "range" = none
  b_tuple : mg "tuple" = none
  b_zip : mg "zip" = none
  b_len : mg "len" = none
  b_int : mg "int" = none
  b_sorted : mg "sorted" = none
  b_abs : mg "abs" = none
  b_list : mg "list" = none
  b_isinstance : mg "isinstance" = none
/-! ### inverse -/
def S_inverse : List D → (D → Prop) → Prop := fun ds T => ∃ (a p : Int), ds = [.int a, .int p] ∧ PR p ∧ -(2 ^ 60) < a ∧ a < 2 ^ 60 ∧ a % p ≠ 0 ∧ T = fun d => d = .int (mInv p a)
abbrev spec_inverse (K : PySem.W.Frag) : Sp := spP S_inverse K
theorem mInv_first {p a : Int} {i : Nat} (hi : i < (p - 1).toNat) (hn : ∀ j : Nat, j < i → a * (1 + (j : Int)) % p ≠ 1) (h : a * (1 + (i : Int)) % p = 1) : mInv p a = 1 + (i : Int) := by
  have e : ((List.range (p - 1).toNat).map fun (k : Nat) => 1 + (k : Int)).find? (fun k => a * k % p == 1) = some (1 + (i : Int)) := by
    rw [List.find?_eq_some_iff_getElem]
    refine ⟨by simpa using h, i, by rw [List.length_map, List.length_range]; exact hi, by rw [List.getElem_map, List.getElem_range], fun j hj => ?_⟩
    rw [List.getElem_map, List.getElem_range]
    simpa using hn j hj
  unfold mInv
  rw [e]
  rfl
theorem ok_inverse {P : Program} {w : World} {K : PySem.W.Frag} {mg : Str → Option Value} {base : Heap} {f : Addr} {fd : FuncData} (hB : Bl mg) (F : Fun K "inverse" "inverse" s_inverse f fd) : FnOk P w K mg base (L2.CX P w) 1 f fd ["a", "p"] (spec_inverse K) := by
  refine F.okX sc_inverse (fun vs H Q E h => ?_) (fun cdv A outer s H vs Q E hr h => ?_)
  · obtain ⟨M, ds, T, hv, lv, hS, q⟩ := h
    rw [hv.length]
    first | (obtain ⟨rfl, _⟩ := hS; rfl) | (obtain ⟨_, rfl, _⟩ := hS; rfl) | (obtain ⟨_, _, rfl, _⟩ := hS; rfl) | (obtain ⟨_, _, _, rfl, _⟩ := hS; rfl) | (obtain ⟨_, _, _, _, rfl, _⟩ := hS; rfl) | (obtain ⟨_, _, _, _, _, rfl, _⟩ := hS; rfl) | (obtain ⟨_, _, _, _, _, _, rfl, _⟩ := hS; rfl) | (obtain ⟨_, _, _, _, _, _, _, rfl, _⟩ := hS; rfl) | (obtain ⟨_, _, _, _, _, _, _, _, rfl, _⟩ := hS; rfl)
  · skip
    obtain ⟨M, ds, T, hv, lv, ⟨a, p, rfl, hp, ha1, ha2, hd, rfl⟩, q⟩ := h
    have hp0 := hp.pos
    have hp7 := hp.le
    refine ⟨_, PSs.nox ((pss_cons (ps_for PassesOwn.never rfl (pi_range2 (by rfl) hB.b_range (pa_cons pe_int (pa_cons (pv 1) pa_nil))) (pg_name (i := 2) sc_inverse.nd rfl (by first | exact Or.inl rfl | exact Or.inr rfl)) (pss_one (ps_if (pt_cmpR (op_eqK K hr.units) (pe_op op_mod (pe_mulK K (pv 0) (pv 2)) (pv 1)) pe_int (nomark _)) (pss_one (ps_ret (pv 2))) pss_nil)))
            (pss_one ps_never))), ?_⟩
    refine inP hv lv [.dat (.int a), .dat (.int p), .any] ?_
    refine rs_forR (ei_rng2 (ea_cons ev_int (ea_one (ev_var rfl))) (by omega)) (fun _ i ks => KsLe ks [.dat (.int a), .dat (.int p), .any] ∧ ∀ j : Nat, j < i → a * (1 + (j : Int)) % p ≠ 1) (fun _ _ => ⟨KsLe.rfl' _, fun j hj => absurd hj (Nat.not_lt_zero j)⟩) (fun items i d ks' e h hI B G w => ?_) fun items ks' e hI => ?_
    · subst e
      obtain ⟨hi, rfl⟩ := ups_get h
      refine ⟨_, gb_name, Cont.weak (ks' := [.dat (.int a), .dat (.int p), .dat (.int (1 + (i : Int)))]) ?_ ?_⟩
      · refine run_if (et_test (ev_op (ev_op (ev_op (ev_var rfl) (ev_var rfl) (mv_int (cm_l (by omega)))) (ev_var rfl) (opv_I hp0)) ev_int qv_int)) (fun c => ?_) fun c => ?_
        · refine run_retP q w.b rfl rfl (ev_var rfl) fun d e => ?_
          rw [e, mInv_first hi hI.2 (of_decide_eq_true c)]
        · refine cont_nxw (ks' := [.dat (.int a), .dat (.int p), .any]) ?_ ⟨?_, fun j hj => ?_⟩
          · walk_at "ks"
          · exact KsLe.rfl' _
          · by_cases e : j = i
            · subst e
              exact of_decide_eq_false c
            · exact hI.2 j (by omega)
      · exact ksle_set hI.1 (KLe.refl _)
    · subst e
      refine fun M σ H o => absurd ?_ (hI.2 (mInv p a - 1).toNat ?_)
      all_goals (have hk := mInv_ok hp hd; first | (rw [ups_length]; omega) | (rw [show (1 : Int) + (((mInv p a - 1).toNat : Nat) : Int) = mInv p a by omega]; exact hk.2.2))
/-! ### add -/
def S_add : List D → (D → Prop) → Prop := fun ds T => ∃ (v w : List Int) (p : Int), ds = [rw v, rw w, .int p] ∧ 0 < p ∧ v.length = w.length ∧ v.length ≤ 1000 ∧ T = fun d => d = rw (mAdd p v w)
abbrev spec_add (K : PySem.W.Frag) : Sp := spP S_add K
theorem ok_add {P : Program} {w : World} {K : PySem.W.Frag} {mg : Str → Option Value} {base : Heap} {f : Addr} {fd : FuncData} (hB : Bl mg) (F : Fun K "add" "add" s_add f fd) : FnOk P w K mg base (L2.CX P w) 1 f fd ["v", "w", "p"] (spec_add K) := by
  refine F.okX sc_add (fun vs H Q E h => ?_) (fun cdv A outer s H vs Q E hr h => ?_)
  · obtain ⟨M, ds, T, hv, lv, hS, q⟩ := h
    rw [hv.length]
    first | (obtain ⟨rfl, _⟩ := hS; rfl) | (obtain ⟨_, rfl, _⟩ := hS; rfl) | (obtain ⟨_, _, rfl, _⟩ := hS; rfl) | (obtain ⟨_, _, _, rfl, _⟩ := hS; rfl) | (obtain ⟨_, _, _, _, rfl, _⟩ := hS; rfl) | (obtain ⟨_, _, _, _, _, rfl, _⟩ := hS; rfl) | (obtain ⟨_, _, _, _, _, _, rfl, _⟩ := hS; rfl) | (obtain ⟨_, _, _, _, _, _, _, rfl, _⟩ := hS; rfl) | (obtain ⟨_, _, _, _, _, _, _, _, rfl, _⟩ := hS; rfl)
  · skip
    obtain ⟨M, ds, T, hv, lv, ⟨v, w, p, rfl, hp, hl, hn, rfl⟩, q⟩ := h
    refine ⟨_, PSs.nox ((pss_one (ps_ret (pe_callTy (call_tupleK K) (by rfl) hB.b_tuple (by decide +kernel) (pa_cons (pe_lc (own := [("x", 3), ("y", 4)]) (g := gTup _ 2 (gCons (gName 3) (gCons (gName 4) gNil))) (tt := tYes) rfl sc_add.nd (pi_zipK K (by rfl) hB.b_zip (pa_cons (pv 0) (pa_cons (pv 1) pa_nil))) (blkOk_by (own := [("x", 3), ("y", 4)]) (by first | rfl | decide +kernel)) (fun _ _ _ _ _ => (pg_tup (by rfl) (pgs_cons (pg_name (i := 3) sc_add.nd rfl (by first | exact Or.inl rfl | exact Or.inr rfl)) (pgs_cons (pg_name (i := 4) sc_add.nd rfl (by first | exact Or.inl rfl | exact Or.inr rfl)) pgs_nil)))) (fun _ _ _ _ _ => pts_nil) (fun _ _ _ _ _ => (pe_op op_mod (pe_addK K (pv 3) (pv 4)) (pv 2)))) pa_nil))))), ?_⟩
    refine inP hv lv [.dat (rw v), .dat (rw w), .dat (.int p), .any, .any] ?_
    refine run_retP q (Same.refl _) rfl rfl (ev_tuple (el_map (xs := v.zip w) (enc := fun p => .tup [.int p.1, .int p.2]) (f := fun x => .int ((x.1 + x.2) % p)) (?ei) (sz (by rw [List.length_zip]; omega)) fun x hx => ⟨_, gw_tup2, ev_op (ev_op (ev_var rfl) (ev_var rfl) av_int) (ev_var rfl) (opv_I hp)⟩)) fun d e => ?_
    case ei =>
      rw [← zips_rw]
      exact ei_zipT (ea_cons (ev_var rfl) (ea_one (ev_var rfl)))
    rw [e, rw_map, zip_map_with (fun a b => (a + b) % p)]
    rfl
/-! ### scaled -/
def S_scaled : List D → (D → Prop) → Prop := fun ds T => ∃ (v : List Int) (a p : Int), ds = [rw v, .int a, .int p] ∧ 0 < p ∧ -(2 ^ 60) < a ∧ a < 2 ^ 60 ∧ v.length ≤ 1000 ∧ T = fun d => d = rw (v.map fun x => x * a % p)
abbrev spec_scaled (K : PySem.W.Frag) : Sp := spP S_scaled K
theorem ok_scaled {P : Program} {w : World} {K : PySem.W.Frag} {mg : Str → Option Value} {base : Heap} {f : Addr} {fd : FuncData} (hB : Bl mg) (F : Fun K "scaled" "scaled" s_scaled f fd) : FnOk P w K mg base (L2.CX P w) 1 f fd ["v", "a", "p"] (spec_scaled K) := by
  refine F.okX sc_scaled (fun vs H Q E h => ?_) (fun cdv A outer s H vs Q E hr h => ?_)
  · obtain ⟨M, ds, T, hv, lv, hS, q⟩ := h
    rw [hv.length]
    first | (obtain ⟨rfl, _⟩ := hS; rfl) | (obtain ⟨_, rfl, _⟩ := hS; rfl) | (obtain ⟨_, _, rfl, _⟩ := hS; rfl) | (obtain ⟨_, _, _, rfl, _⟩ := hS; rfl) | (obtain ⟨_, _, _, _, rfl, _⟩ := hS; rfl) | (obtain ⟨_, _, _, _, _, rfl, _⟩ := hS; rfl) | (obtain ⟨_, _, _, _, _, _, rfl, _⟩ := hS; rfl) | (obtain ⟨_, _, _, _, _, _, _, rfl, _⟩ := hS; rfl) | (obtain ⟨_, _, _, _, _, _, _, _, rfl, _⟩ := hS; rfl)
  · skip
    obtain ⟨M, ds, T, hv, lv, ⟨v, a, p, rfl, hp, ha1, ha2, hl, rfl⟩, q⟩ := h
    refine ⟨_, PSs.nox ((pss_one (ps_ret (pe_callTy (call_tupleK K) (by rfl) hB.b_tuple (by decide +kernel) (pa_cons (pe_lc (own := [("x", 3)]) (g := gName 3) (tt := tYes) rfl sc_scaled.nd (pi_seqK K (pv 0)) (blkOk_by (own := [("x", 3)]) (by first | rfl | decide +kernel)) (fun _ _ _ _ _ => (pg_name (i := 3) sc_scaled.nd rfl (by first | exact Or.inl rfl | exact Or.inr rfl))) (fun _ _ _ _ _ => pts_nil) (fun _ _ _ _ _ => (pe_op op_mod (pe_mulK K (pv 3) (pv 1)) (pv 2)))) pa_nil))))), ?_⟩
    refine inP hv lv [.dat (rw v), .dat (.int a), .dat (.int p), .any] ?_
    refine run_retP q (Same.refl _) rfl rfl (ev_tuple (el_map (xs := v) (enc := D.int) (f := fun x => .int (x * a % p)) (ei_seqT (ev_var rfl)) (sz (by omega)) fun x hx => ⟨_, gw_name, ?_⟩)) ?_
    · exact ev_op (ev_op (ev_var rfl) (ev_var rfl) (mv_int (cm_r (by omega)))) (ev_var rfl) (opv_I hp)
    · intro d e
      rw [e, rw_map]
/-! ### cleared -/
def S_cleared : List D → (D → Prop) → Prop := fun ds T => ∃ (row head : List Int) (j : Nat) (p : Int), ds = [rw row, rw head, .int (j : Int), .int p] ∧ PR p ∧ Vc p row.length row ∧ head.length = row.length ∧ (∀ x ∈ head, 0 ≤ x ∧ x < p) ∧ j < row.length ∧ row.length ≤ 1000 ∧ T = fun d => d = rw (mClr p j head row)
abbrev spec_cleared (K : PySem.W.Frag) : Sp := spP S_cleared K
theorem ok_cleared {P : Program} {w : World} {K : PySem.W.Frag} {mg : Str → Option Value} {base : Heap} {f : Addr} {fd : FuncData} (hB : Bl mg) (F : Fun K "cleared" "cleared" s_cleared f fd) : FnOk P w K mg base (L2.CX P w) 1 f fd ["row", "head", "at", "p"] (spec_cleared K) := by
  refine F.okX sc_cleared (fun vs H Q E h => ?_) (fun cdv A outer s H vs Q E hr h => ?_)
  · obtain ⟨M, ds, T, hv, lv, hS, q⟩ := h
    rw [hv.length]
    first | (obtain ⟨rfl, _⟩ := hS; rfl) | (obtain ⟨_, rfl, _⟩ := hS; rfl) | (obtain ⟨_, _, rfl, _⟩ := hS; rfl) | (obtain ⟨_, _, _, rfl, _⟩ := hS; rfl) | (obtain ⟨_, _, _, _, rfl, _⟩ := hS; rfl) | (obtain ⟨_, _, _, _, _, rfl, _⟩ := hS; rfl) | (obtain ⟨_, _, _, _, _, _, rfl, _⟩ := hS; rfl) | (obtain ⟨_, _, _, _, _, _, _, rfl, _⟩ := hS; rfl) | (obtain ⟨_, _, _, _, _, _, _, _, rfl, _⟩ := hS; rfl)
  · skip
    obtain ⟨M, ds, T, hv, lv, ⟨row, head, j, p, rfl, hp, hr0, hh, hh2, hj, hl, rfl⟩, q⟩ := h
    have hp0 := hp.pos
    have hp7 := hp.le
    have hrj := hr0.at hj
    refine ⟨_, PSs.nox ((pss_cons (ps_if (pt_cmpR (op_eqK K hr.units) (pe_ixK K (pv 0) (pv 2) (fun _ _ => rfl)) pe_int (nomark _)) (pss_one (ps_ret (pv 0))) pss_nil)
            (pss_one (ps_ret (pe_callTy (call_tupleK K) (by rfl) hB.b_tuple (by decide +kernel) (pa_cons (pe_lc (own := [("x", 4), ("y", 5)]) (g := gTup _ 2 (gCons (gName 4) (gCons (gName 5) gNil))) (tt := tYes) rfl sc_cleared.nd (pi_zipK K (by rfl) hB.b_zip (pa_cons (pv 0) (pa_cons (pv 1) pa_nil))) (blkOk_by (own := [("x", 4), ("y", 5)]) (by first | rfl | decide +kernel)) (fun _ _ _ _ _ => (pg_tup (by rfl) (pgs_cons (pg_name (i := 4) sc_cleared.nd rfl (by first | exact Or.inl rfl | exact Or.inr rfl)) (pgs_cons (pg_name (i := 5) sc_cleared.nd rfl (by first | exact Or.inl rfl | exact Or.inr rfl)) pgs_nil)))) (fun _ _ _ _ _ => pts_nil) (fun _ _ _ _ _ => (pe_op op_mod (pe_op op_sub (pv 4) (pe_mulK K (pe_ixK K (pv 0) (pv 2) (fun _ _ => rfl)) (pv 5))) (pv 3)))) pa_nil)))))), ?_⟩
    refine inP hv lv [.dat (rw row), .dat (rw head), .dat (.int (j : Int)), .dat (.int p), .any, .any] ?_
    refine rs_if (et_test (ev_op (ev_ixT (ev_var rfl) (ev_var rfl) (at_getD 0 hj)) ev_int qv_int)) (fun c => ?_) fun c => ?_
    · refine run_retP q (Same.refl _) rfl rfl (ev_var rfl) fun d e => ?_
      rw [e]
      unfold mClr
      rw [if_pos (of_decide_eq_true c)]
    · refine run_retP q (Same.refl _) rfl rfl (ev_tuple (el_map (xs := row.zip head) (enc := fun p => .tup [.int p.1, .int p.2]) (f := fun x => .int ((x.1 - row.getD j 0 * x.2) % p)) (?ei) (sz (by rw [List.length_zip]; omega)) fun x hx => ⟨_, gw_tup2, ?_⟩)) fun d e => ?_
      case ei =>
        rw [← zips_rw]
        exact ei_zipT (ea_cons (ev_var rfl) (ea_one (ev_var rfl)))
      · have hx2 := hh2 x.2 (List.of_mem_zip hx).2
        exact ev_op (ev_op (ev_var rfl) (ev_op (ev_ixT (ev_var rfl) (ev_var rfl) (at_getD 0 hj)) (ev_var rfl) (mv_int (cm_r (by omega)))) opv_I0) (ev_var rfl) (opv_I hp0)
      · rw [e, rw_map, zip_map_with (fun a b => (a - row.getD j 0 * b) % p)]
        unfold mClr
        rw [if_neg (of_decide_eq_false c)]
/-! ### reduced -/
def S_reduced : List D → (D → Prop) → Prop := fun ds T => ∃ (x : D) (rows : List (List Int)) (n : Nat) (p : Int), ds = [x, .int (n : Int), .int p] ∧ (x = .lst (rws rows) ∨ x = .tup (rws rows)) ∧ PR p ∧ Vcs p n rows ∧ rows.length ≤ 10000 ∧ n ≤ 1000 ∧ T = fun d => d = .tup [.tup (rws (mRed p n rows)), rw (mPiv p n rows)]
abbrev spec_reduced (K : PySem.W.Frag) : Sp := spP S_reduced K
theorem ok_reduced {P : Program} {w : World} {K : PySem.W.Frag} {mg : Str → Option Value} {base : Heap} {f : Addr} {fd : FuncData} (hB : Bl mg) (D_cleared : Df P w K mg base "cleared" 1 ["row", "head", "at", "p"] (spec_cleared K)) (D_scaled : Df P w K mg base "scaled" 1 ["v", "a", "p"] (spec_scaled K)) (D_inverse : Df P w K mg base "inverse" 1 ["a", "p"] (spec_inverse K)) (F : Fun K "reduced" "reduced" s_reduced f fd) : FnOk P w K mg base (L2.CX P w) 2 f fd ["rows", "width", "p"] (spec_reduced K) := by
  refine F.okX sc_reduced (fun vs H Q E h => ?_) (fun cdv A outer s H vs Q E hr h => ?_)
  · obtain ⟨M, ds, T, hv, lv, hS, q⟩ := h
    rw [hv.length]
    first | (obtain ⟨rfl, _⟩ := hS; rfl) | (obtain ⟨_, rfl, _⟩ := hS; rfl) | (obtain ⟨_, _, rfl, _⟩ := hS; rfl) | (obtain ⟨_, _, _, rfl, _⟩ := hS; rfl) | (obtain ⟨_, _, _, _, rfl, _⟩ := hS; rfl) | (obtain ⟨_, _, _, _, _, rfl, _⟩ := hS; rfl) | (obtain ⟨_, _, _, _, _, _, rfl, _⟩ := hS; rfl) | (obtain ⟨_, _, _, _, _, _, _, rfl, _⟩ := hS; rfl) | (obtain ⟨_, _, _, _, _, _, _, _, rfl, _⟩ := hS; rfl)
  · skip
    obtain ⟨M, ds, T, hv, lv, ⟨x, rows, n, p, rfl, hx, hp, hR, hl, hn, rfl⟩, q⟩ := h
    have hp0 := hp.pos
    have hp7 := hp.le
    have hok := rRun_ok hp0 hR
    refine ⟨_, PSs.nox ((pss_cons (ps_set (i := 3) sc_reduced.nd rfl (by first | exact Or.inl rfl | exact Or.inr rfl) (pe_lc (own := [("row", 9)]) (g := gName 9) (tt := tYes) rfl sc_reduced.nd (pi_seqK K (pv 0)) (blkOk_by (own := [("row", 9)]) (by first | rfl | decide +kernel)) (fun _ _ _ _ _ => (pg_name (i := 9) sc_reduced.nd rfl (by first | exact Or.inl rfl | exact Or.inr rfl))) (fun _ _ _ _ _ => pts_nil) (fun _ _ _ _ _ => (pe_callTy (call_tupleK K) (by rfl) hB.b_tuple (by decide +kernel) (pa_cons (pv 9) pa_nil)))))
            (pss_cons (ps_set (i := 4) sc_reduced.nd rfl (by first | exact Or.inl rfl | exact Or.inr rfl) (pe_lst pa_nil))
            (pss_cons (ps_set (i := 5) sc_reduced.nd rfl (by first | exact Or.inl rfl | exact Or.inr rfl) (pe_lst pa_nil))
            (pss_cons (ps_for PassesOwn.never rfl (pi_range1 (by rfl) hB.b_range (pa_cons (pv 1) pa_nil)) (pg_name (i := 6) sc_reduced.nd rfl (by first | exact Or.inl rfl | exact Or.inr rfl)) (pss_cons (ps_setLc (i := 7) (own := [("k", 10)]) (g := gName 10) rfl sc_reduced.nd rfl rfl (sw_true rfl rfl rfl (by decide +kernel)) (pi_range1 (by rfl) hB.b_range (pa_cons (pe_callB (call_lenK K) (by rfl) hB.b_len PySem.boot_len (pa_cons (pv 3) pa_nil)) pa_nil)) (blkOk_by (own := [("k", 10)]) (by first | rfl | decide +kernel)) (fun _ _ _ _ _ => (pg_name (i := 10) sc_reduced.nd rfl (by first | exact Or.inl rfl | exact Or.inr rfl))) (fun _ _ _ _ _ => pts_one (pt_cmpR (op_neK K hr.units) (pe_ixK K (pe_ixK K (pv 3) (pv 10) (fun _ _ => rfl)) (pv 6) (fun _ _ => rfl)) pe_int (nomark _))) (fun _ _ _ _ _ => (pv 10)))
            (pss_one (ps_if (pt_cmpR op_gt (pe_callB (call_lenK K) (by rfl) hB.b_len PySem.boot_len (pa_cons (pv 7) pa_nil)) pe_int (nomark _)) (pss_cons (ps_set (i := 8) sc_reduced.nd rfl (by first | exact Or.inl rfl | exact Or.inr rfl) (pe_bm PySem.F.plainAttrs_list PySem.F.slot_list_pop PySem.F.type_list_pop mt_popAt (pv 3) (pa_cons (pe_ixK K (pv 7) pe_int (fun _ _ => rfl)) pa_nil)))
            (pss_cons (ps_set (i := 8) sc_reduced.nd rfl (by first | exact Or.inl rfl | exact Or.inr rfl) (pe_callD D_scaled (hr.mono (by decide)) (by rfl) (pa_cons (pv 8) (pa_cons (pe_callD D_inverse (hr.mono (by decide)) (by rfl) (pa_cons (pe_ixK K (pv 8) (pv 6) (fun _ _ => rfl)) (pa_cons (pv 2) pa_nil))) (pa_cons (pv 2) pa_nil)))))
            (pss_cons (ps_set (i := 3) sc_reduced.nd rfl (by first | exact Or.inl rfl | exact Or.inr rfl) (pe_lc (own := [("row", 9)]) (g := gName 9) (tt := tYes) rfl sc_reduced.nd (pi_seqK K (pv 3)) (blkOk_by (own := [("row", 9)]) (by first | rfl | decide +kernel)) (fun _ _ _ _ _ => (pg_name (i := 9) sc_reduced.nd rfl (by first | exact Or.inl rfl | exact Or.inr rfl))) (fun _ _ _ _ _ => pts_nil) (fun _ _ _ _ _ => (pe_callD D_cleared (hr.mono (by decide)) (by rfl) (pa_cons (pv 9) (pa_cons (pv 8) (pa_cons (pv 6) (pa_cons (pv 2) pa_nil))))))))
            (pss_cons (ps_set (i := 4) sc_reduced.nd rfl (by first | exact Or.inl rfl | exact Or.inr rfl) (pe_addK K (pe_lc (own := [("row", 9)]) (g := gName 9) (tt := tYes) rfl sc_reduced.nd (pi_seqK K (pv 4)) (blkOk_by (own := [("row", 9)]) (by first | rfl | decide +kernel)) (fun _ _ _ _ _ => (pg_name (i := 9) sc_reduced.nd rfl (by first | exact Or.inl rfl | exact Or.inr rfl))) (fun _ _ _ _ _ => pts_nil) (fun _ _ _ _ _ => (pe_callD D_cleared (hr.mono (by decide)) (by rfl) (pa_cons (pv 9) (pa_cons (pv 8) (pa_cons (pv 6) (pa_cons (pv 2) pa_nil))))))) (pe_lst (pa_cons (pv 8) pa_nil))))
            (pss_one (ps_expr (pe_bm PySem.F.plainAttrs_list PySem.F.slot_list_append PySem.F.type_list_append mt_append (pv 5) (pa_cons (pv 6) pa_nil)))))))) pss_nil))))
            (pss_one (ps_ret (pe_tup (pa_cons (pe_callTy (call_tupleK K) (by rfl) hB.b_tuple (by decide +kernel) (pa_cons (pv 4) pa_nil)) (pa_cons (pe_callTy (call_tupleK K) (by rfl) hB.b_tuple (by decide +kernel) (pa_cons (pv 5) pa_nil)) pa_nil)))))))))), ?_⟩
    refine inP hv lv [.dat x, .dat (.int (n : Int)), .dat (.int p), .any, .any, .any, .any, .any, .any, .any, .any] ?_
    refine rs_asgL (el_map (xs := rows) (enc := rw) (f := rw) (ei_seq (ev_var rfl) hx) (sz (by omega)) fun r _ => ⟨_, gw_name, ev_cb (ea_one (ev_var rfl)) cav_tupT⟩) ?_
    refine rs_asgL (el_lst ea_nil) ?_
    refine rs_asgL (el_lst ea_nil) ?_
    refine rs_for (ei_rng1 (ea_one (ev_var rfl)) (by omega)) (fun i => [.dat x, .dat (.int (n : Int)), .dat (.int p), .own (fun z => z = rws (rRun p rows i).left), .own (fun z => z = rws (rRun p rows i).found), .own (fun z => z = (rRun p rows i).piv.map D.int), .any, .any, .any, .any, .any]) (KsLe.rfl' _) (fun i d h B G w => ?_) ?_
    · obtain ⟨hi, rfl⟩ := ups_get h
      rw [Int.zero_add]
      have hin : i < n := by omega
      have ho := hok i
      refine ⟨_, gb_name, ?_⟩
      refine rs_asgL (el_filt (xs := List.range (rRun p rows i).left.length) (enc := fun k => .int (0 + (k : Nat))) (b := fun k => !decide (((rRun p rows i).left.getD k []).getD i 0 = 0)) (f := fun k => .int (k : Int)) ?a (sz (by rw [List.length_range]; have := ho.len; omega)) fun k hk => ⟨_, gw_name, ?b, fun _ => (ev_var rfl).to (by rw [Int.zero_add])⟩) ?_
      case a =>
        exact ei_rng1 (n := ((rRun p rows i).left.length : Nat)) (ea_one (ev_lenO (R := fun d => d = .int ((rRun p rows i).left.length : Nat)) rfl rfl fun ds e => by rw [show ds = _ from e, List.length_map])) (by have := ho.len; omega)
      case b =>
        have hk' := List.mem_range.mp hk
        have hv := ho.l _ (getD_memL hk')
        refine et_test (ev_op (ev_ixT (ev_ixM (j := 0 + (k : Int)) (R := fun d => d = rw ((rRun p rows i).left.getD k [])) rfl rfl (ev_var rfl) fun ds e => ⟨_, by rw [show ds = _ from e, Int.zero_add]; exact at_getD [] hk', rfl⟩) (ev_var rfl) (at_getD 0 (by rw [hv.1]; exact hin))) ev_int nv_int)
      refine rs_weak (ks' := [.dat x, .dat (.int (n : Int)), .dat (.int p), .own (fun z => z = rws (rRun p rows i).left), .own (fun z => z = rws (rRun p rows i).found), .own (fun z => z = (rRun p rows i).piv.map D.int), .dat (.int (i : Int)), .own (fun z => z = (hds (rRun p rows i).left i).map fun (k : Nat) => D.int (k : Int)), .any, .any, .any]) ?_ (by walk_at "ks")
      refine run_if (b := decide (0 < ((hds (rRun p rows i).left i).length : Int))) (et_test (ev_op (ev_lenO (R := fun d => d = .int ((hds (rRun p rows i).left i).length : Nat)) rfl rfl fun ds e => by rw [show ds = _ from e, List.length_map]) ev_int opv_B0)) (fun c => ?_) fun c => ?_
      · cases eh : hds (rRun p rows i).left i with
        | nil => rw [eh] at c; exact absurd (of_decide_eq_true c) (by simp)
        | cons h0 t =>
          obtain ⟨g1, g2⟩ := hds_mem (by rw [eh]; exact List.mem_cons_self : h0 ∈ hds (rRun p rows i).left i)
          have hv0 := ho.l _ (getD_memL g1)
          have hv1 := hv0.at hin
          have es := rRun_succ p rows i
          rw [rStep_cons eh] at es
          have hb0 : ((rRun p rows i).left.getD h0 []).getD i 0 % p ≠ 0 := by rw [Int.emod_eq_of_lt hv1.1 hv1.2]; exact g2
          have hk := mInv_ok hp hb0
          refine rs_pop (m := h0) (d := rw ((rRun p rows i).left.getD h0 [])) rfl (ev_ixM (j := 0) (R := fun d => d = .int (h0 : Int)) rfl rfl ev_int fun ds e => ⟨_, by rw [show ds = _ from e]; exact atI_nat (j := 0) rfl, rfl⟩) rfl (by have := ho.len; omega) (by rw [List.getElem?_map, List.getElem?_eq_getElem g1, List.getD_eq_getElem?_getD, List.getElem?_eq_getElem g1]; rfl) ?_
          refine rs_asg (d := rw (mScl p (mInv p (((rRun p rows i).left.getD h0 []).getD i 0)) ((rRun p rows i).left.getD h0 []))) (ev_call (ea_cons (ev_var rfl) (ea_cons (ev_call (ea_cons (ev_ixT (ev_var rfl) (ev_var rfl) (at_getD 0 (by rw [hv0.1]; exact hin))) (ea_one (ev_var rfl))) ⟨_, _, rfl, hp, by omega, by omega, hb0, rfl⟩) (ea_one (ev_var rfl)))) ⟨_, _, _, rfl, hp0, by omega, by omega, by rw [hv0.1]; omega, rfl⟩) ?_
          have hh : Vc p n (mScl p (mInv p (((rRun p rows i).left.getD h0 []).getD i 0)) ((rRun p rows i).left.getD h0 [])) := Vc.scl hp0 hv0.1
          refine rs_freeze 3 (ds := rws ((rRun p rows i).left.eraseIdx h0)) (by simp [rws, map_erase]) ?_
          refine rs_asgL (el_map (xs := (rRun p rows i).left.eraseIdx h0) (enc := rw) (f := fun r => rw (mClr p i (mScl p (mInv p (((rRun p rows i).left.getD h0 []).getD i 0)) ((rRun p rows i).left.getD h0 [])) r)) (ei_seqL (ev_var rfl)) (sz (by rw [List.length_eraseIdx, if_pos g1]; have := ho.len; omega)) fun r hr => ⟨_, gw_name, ?c⟩) ?_
          case c =>
            have hr1 := ho.l r (List.mem_of_mem_eraseIdx hr)
            exact ev_call (ea_cons (ev_var rfl) (ea_cons (ev_var rfl) (ea_cons (ev_var rfl) (ea_one (ev_var rfl))))) ⟨_, _, _, _, rfl, hp, ⟨rfl, hr1.2⟩, by rw [hh.1, hr1.1], hh.2, by rw [hr1.1]; exact hin, by rw [hr1.1]; omega, rfl⟩
          refine rs_freeze 4 rfl ?_
          refine rs_asgLR (ev_opL (ev_lst (el_map (xs := (rRun p rows i).found) (enc := rw) (f := fun r => rw (mClr p i (mScl p (mInv p (((rRun p rows i).left.getD h0 []).getD i 0)) ((rRun p rows i).left.getD h0 [])) r)) (ei_seqL (ev_var rfl)) (sz (by have := ho.len; omega)) fun r hr => ⟨_, gw_name, ?d⟩)) (ev_lst (el_lst (ea_one (ev_var rfl)))) (av_lst (by rw [List.length_map]; exact sz (by have := ho.len; simp; omega)))) ?_
          case d =>
            have hr1 := ho.f r hr
            exact ev_call (ea_cons (ev_var rfl) (ea_cons (ev_var rfl) (ea_cons (ev_var rfl) (ea_one (ev_var rfl))))) ⟨_, _, _, _, rfl, hp, ⟨rfl, hr1.2⟩, by rw [hh.1, hr1.1], hh.2, by rw [hr1.1]; exact hin, by rw [hr1.1]; omega, rfl⟩
          refine run_app rfl (ev_var rfl) (szl (by rw [List.length_map, ho.pl]; have := ho.len; omega)) (cont_nx1 ?_)
          rw [es]
          refine ksle_cons (KLe.refl _) (ksle_cons (KLe.refl _) (ksle_cons (KLe.refl _) (ksle_cons ?_ (ksle_cons ?_ (ksle_cons ?_ ?_)))))
          · intro z e
            rw [show z = _ from e]
            simp [rws]
          · intro z e
            rw [show z = _ from e]
            simp [rws]
          · intro z e
            rw [show z = _ from e]
            simp
          · walk_at "ks"
      · refine cont_nx1 ?_
        have eh : hds (rRun p rows i).left i = [] := by
          cases eh : hds (rRun p rows i).left i with
          | nil => rfl
          | cons a t => rw [eh] at c; exact absurd (of_decide_eq_false c) (by simp)
        rw [rRun_succ, rStep_nil eh]
        walk_at "ks"
    · rw [ups_length]
      refine rs_freeze 4 rfl (rs_freeze 5 rfl ?_)
      refine run_retP q (Same.refl _) rfl rfl (ev_tup (ea_cons (ev_cb (ea_one (ev_var rfl)) cav_tupL) (ea_one (ev_cb (ea_one (ev_var rfl)) cav_tupL)))) fun d e => ?_
      rw [e]
      rfl
/-! ### span -/
def S_span : List D → (D → Prop) → Prop := fun ds T => ∃ (x : D) (rows : List (List Int)) (n : Nat) (p : Int), ds = [x, .int (n : Int), .int p] ∧ (x = .lst (rws rows) ∨ x = .tup (rws rows)) ∧ PR p ∧ Vcs p n rows ∧ rows.length ≤ 10000 ∧ n ≤ 1000 ∧ T = fun d => d = .tup (rws (mRed p n rows))
abbrev spec_span (K : PySem.W.Frag) : Sp := spP S_span K
theorem ok_span {P : Program} {w : World} {K : PySem.W.Frag} {mg : Str → Option Value} {base : Heap} {f : Addr} {fd : FuncData} (hB : Bl mg) (D_reduced : Df P w K mg base "reduced" 2 ["rows", "width", "p"] (spec_reduced K)) (F : Fun K "span" "span" s_span f fd) : FnOk P w K mg base (L2.CX P w) 3 f fd ["rows", "width", "p"] (spec_span K) := by
  refine F.okX sc_span (fun vs H Q E h => ?_) (fun cdv A outer s H vs Q E hr h => ?_)
  · obtain ⟨M, ds, T, hv, lv, hS, q⟩ := h
    rw [hv.length]
    first | (obtain ⟨rfl, _⟩ := hS; rfl) | (obtain ⟨_, rfl, _⟩ := hS; rfl) | (obtain ⟨_, _, rfl, _⟩ := hS; rfl) | (obtain ⟨_, _, _, rfl, _⟩ := hS; rfl) | (obtain ⟨_, _, _, _, rfl, _⟩ := hS; rfl) | (obtain ⟨_, _, _, _, _, rfl, _⟩ := hS; rfl) | (obtain ⟨_, _, _, _, _, _, rfl, _⟩ := hS; rfl) | (obtain ⟨_, _, _, _, _, _, _, rfl, _⟩ := hS; rfl) | (obtain ⟨_, _, _, _, _, _, _, _, rfl, _⟩ := hS; rfl)
  · skip
    obtain ⟨M, ds, T, hv, lv, ⟨x, rows, n, p, rfl, hx, hp, hR, hl, hn, rfl⟩, q⟩ := h
    refine ⟨_, PSs.nox ((pss_one (ps_ret (pe_ixK K (pe_callD D_reduced (hr.mono (by decide)) (by rfl) (pa_cons (pv 0) (pa_cons (pv 1) (pa_cons (pv 2) pa_nil)))) pe_int (fun _ _ => rfl))))), ?_⟩
    refine inP hv lv [.dat x, .dat (.int (n : Int)), .dat (.int p)] ?_
    exact run_retP q (Same.refl _) rfl rfl (ev_ixT (ev_call (ea_cons (ev_var rfl) (ea_cons (ev_var rfl) (ea_one (ev_var rfl)))) ⟨x, rows, n, p, rfl, hx, hp, hR, hl, hn, rfl⟩) ev_int (atI_nat (j := 0) rfl)) fun d e => e
/-! ### kernel -/
def S_kernel : List D → (D → Prop) → Prop := fun ds T => ∃ (x : D) (rows : List (List Int)) (n : Nat) (p : Int), ds = [x, .int (n : Int), .int p] ∧ (x = .lst (rws rows) ∨ x = .tup (rws rows)) ∧ PR p ∧ Vcs p n rows ∧ rows.length ≤ 10000 ∧ n ≤ 1000 ∧ T = fun d => d = .tup (rws (mKer p n rows))
abbrev spec_kernel (K : PySem.W.Frag) : Sp := spP S_kernel K
theorem ups_int (n : Nat) : ups 0 n = (List.range n).map fun (k : Nat) => D.int (0 + (k : Int)) := rfl
theorem ok_kernel {P : Program} {w : World} {K : PySem.W.Frag} {mg : Str → Option Value} {base : Heap} {f : Addr} {fd : FuncData} (hB : Bl mg) (D_span : Df P w K mg base "span" 3 ["rows", "width", "p"] (spec_span K)) (D_reduced : Df P w K mg base "reduced" 2 ["rows", "width", "p"] (spec_reduced K)) (F : Fun K "kernel" "kernel" s_kernel f fd) : FnOk P w K mg base (L2.CX P w) 4 f fd ["rows", "width", "p"] (spec_kernel K) := by
  refine F.okX sc_kernel (fun vs H Q E h => ?_) (fun cdv A outer s H vs Q E hr h => ?_)
  · obtain ⟨M, ds, T, hv, lv, hS, q⟩ := h
    rw [hv.length]
    first | (obtain ⟨rfl, _⟩ := hS; rfl) | (obtain ⟨_, rfl, _⟩ := hS; rfl) | (obtain ⟨_, _, rfl, _⟩ := hS; rfl) | (obtain ⟨_, _, _, rfl, _⟩ := hS; rfl) | (obtain ⟨_, _, _, _, rfl, _⟩ := hS; rfl) | (obtain ⟨_, _, _, _, _, rfl, _⟩ := hS; rfl) | (obtain ⟨_, _, _, _, _, _, rfl, _⟩ := hS; rfl) | (obtain ⟨_, _, _, _, _, _, _, rfl, _⟩ := hS; rfl) | (obtain ⟨_, _, _, _, _, _, _, _, rfl, _⟩ := hS; rfl)
  · skip
    obtain ⟨M, ds, T, hv, lv, ⟨x, rows, n, p, rfl, hx, hp, hR, hl, hn, rfl⟩, q⟩ := h
    have hp0 := hp.pos
    have hp7 := hp.le
    have hP := (red_form hp hR).2
    have hF := (red_form hp hR).1
    have hA := red_vcs hp hR
    have hL := red_len hp hR
    refine ⟨_, PSs.nox ((pss_cons (ps_asg (pe_callD D_reduced (hr.mono (by decide)) (by rfl) (pa_cons (pv 0) (pa_cons (pv 1) (pa_cons (pv 2) pa_nil)))) (pg_tup (by rfl) (pgs_cons (pg_name (i := 3) sc_kernel.nd rfl (by first | exact Or.inl rfl | exact Or.inr rfl)) (pgs_cons (pg_name (i := 4) sc_kernel.nd rfl (by first | exact Or.inl rfl | exact Or.inr rfl)) pgs_nil))))
            (pss_cons (ps_set (i := 5) sc_kernel.nd rfl (by first | exact Or.inl rfl | exact Or.inr rfl) (pe_lst pa_nil))
            (pss_cons (ps_for PassesOwn.never rfl (pi_range1 (by rfl) hB.b_range (pa_cons (pv 1) pa_nil)) (pg_name (i := 6) sc_kernel.nd rfl (by first | exact Or.inl rfl | exact Or.inr rfl)) (pss_one (ps_if (pt_cmpR (op_notInK K (Room.units65 hr)) (pv 6) (pv 4) (by with_unfolding_all rfl)) (pss_cons (ps_setLc (i := 7) (own := [("at", 9)]) (g := gName 9) (tt := tYes) rfl sc_kernel.nd rfl rfl (sw_true rfl rfl rfl (by decide +kernel)) (pi_range1 (by rfl) hB.b_range (pa_cons (pv 1) pa_nil)) (blkOk_by (own := [("at", 9)]) (by first | rfl | decide +kernel)) (fun _ _ _ _ _ => (pg_name (i := 9) sc_kernel.nd rfl (by first | exact Or.inl rfl | exact Or.inr rfl))) (fun _ _ _ _ _ => pts_nil) (fun _ _ _ _ _ => (pe_callTy call_int1 (by rfl) hB.b_int (by decide +kernel) (pa_cons (pe_cmpR (op_eqK K hr.units) (pv 9) (pv 6) (nomark _)) pa_nil))))
            (pss_cons (ps_for PassesOwn.never rfl (pi_zipK K (by rfl) hB.b_zip (pa_cons (pv 3) (pa_cons (pv 4) pa_nil))) (pg_tup (by rfl) (pgs_cons (pg_name (i := 8) sc_kernel.nd rfl (by first | exact Or.inl rfl | exact Or.inr rfl)) (pgs_cons (pg_name (i := 9) sc_kernel.nd rfl (by first | exact Or.inl rfl | exact Or.inr rfl)) pgs_nil))) (pss_one (ps_asg (pe_op op_mod (pe_un un_neg (pe_ixK K (pv 8) (pv 6) (fun _ _ => rfl))) (pv 2)) (pg_sub (pv 7) (pv 9) set_list))))
            (pss_one (ps_expr (pe_bm PySem.F.plainAttrs_list PySem.F.slot_list_append PySem.F.type_list_append mt_append (pv 5) (pa_cons (pe_callTy (call_tupleK K) (by rfl) hB.b_tuple (by decide +kernel) (pa_cons (pv 7) pa_nil)) pa_nil)))))) pss_nil)))
            (pss_one (ps_ret (pe_callD D_span (hr.mono (by decide)) (by rfl) (pa_cons (pv 5) (pa_cons (pv 1) (pa_cons (pv 2) pa_nil)))))))))), ?_⟩
    refine inP hv lv [.dat x, .dat (.int (n : Int)), .dat (.int p), .any, .any, .any, .any, .any, .any, .any] ?_
    refine rs_asgG (d := .tup [.tup (rws (mRed p n rows)), rw ((mRed p n rows).map fun r => (mPv r : Int))]) (Ev.to (ev_call (ea_cons (ev_var rfl) (ea_cons (ev_var rfl) (ea_one (ev_var rfl)))) ⟨_, rows, n, p, rfl, hx, hp, hR, hl, hn, rfl⟩) (by rw [hP])) gb_tup2 ?_
    have ek : mKer p n rows = mRed p n (kRows p n (mRed p n rows)) := rfl
    rw [ek] at q
    clear ek
    generalize mRed p n rows = A at *
    refine rs_asgL (el_lst ea_nil) ?_
    refine rs_for (ei_rng1 (ea_one (ev_var rfl)) (by omega)) (fun i => [.dat x, .dat (.int (n : Int)), .dat (.int p), .dat (.tup (rws A)), .dat (rw (A.map fun r => (mPv r : Int))), .own (fun z => z = rws (((List.range i).filter fun f => !decide (f ∈ A.map mPv)).map (kRow p n A))), .any, .any, .any, .any]) (KsLe.rfl' _) (fun i d h B G w => ?_) ?_
    · obtain ⟨hi, rfl⟩ := ups_get h
      rw [Int.zero_add]
      have hin : i < n := by omega
      have hm : decide ((i : Int) ∈ A.map fun r => (mPv r : Int)) = decide (i ∈ A.map mPv) := by
        refine decide_eq_decide.mpr ?_
        rw [List.mem_map, List.mem_map]
        exact ⟨fun ⟨r, h1, h2⟩ => ⟨r, h1, by omega⟩, fun ⟨r, h1, h2⟩ => ⟨r, h1, by omega⟩⟩
      have hs : ((List.range (i + 1)).filter fun f => !decide (f ∈ A.map mPv)) = ((List.range i).filter fun f => !decide (f ∈ A.map mPv)) ++ if i ∈ A.map mPv then [] else [i] := by
        rw [List.range_succ, List.filter_append]
        congr 1
        by_cases c : i ∈ A.map mPv
        · rw [if_pos c, List.filter_cons, decide_eq_true c]
          rfl
        · rw [if_neg c, List.filter_cons, decide_eq_false c]
          rfl
      refine ⟨_, gb_name, ?_⟩
      refine run_if (b := !decide (i ∈ A.map mPv)) (et_test (Ev.to (ev_op (ev_var rfl) (ev_var rfl) (niv_ints (.inr rfl))) (by rw [hm]))) (fun c => ?_) fun c => ?_
      · have c' : i ∉ A.map mPv := by
          intro z
          rw [decide_eq_true z] at c
          cases c
        rw [if_neg c'] at hs
        refine rs_asgL (EvL.to (el_map (xs := List.range n) (enc := fun k => .int (0 + (k : Nat))) (f := fun k => .int (if decide (0 + (k : Int) = (i : Int)) then 1 else 0)) (ei_rng1 (n := (n : Nat)) (ea_one (ev_var rfl)) (by omega)) (sz (by rw [List.length_range]; omega)) fun k hk => ⟨_, gw_name, ev_cb (ea_one (ev_op (ev_var rfl) (ev_var rfl) qv_int)) cav_intB⟩) (e := (unitR n i).map D.int) ?_) ?_
        · unfold unitR
          rw [List.map_map]
          refine List.map_congr_left fun k _ => ?_
          show D.int (if decide (0 + (k : Int) = (i : Int)) then 1 else 0) = D.int (if k = i then 1 else 0)
          by_cases e : k = i
          · subst e
            simp
          · rw [if_neg e, decide_eq_false (by omega)]
            rfl
        refine rs_for (ei_zipT (ea_cons (ev_var rfl) (ea_one (ev_var rfl)))) (fun k => [.dat x, .dat (.int (n : Int)), .dat (.int p), .dat (.tup (rws A)), .dat (rw (A.map fun r => (mPv r : Int))), .own (fun z => z = rws (((List.range i).filter fun f => !decide (f ∈ A.map mPv)).map (kRow p n A))), .dat (.int (i : Int)), .own (fun z => z = ((A.take k).foldl (kStep p i) (unitR n i)).map D.int), .any, .any]) (KsLe.rfl' _) (fun k d h B2 G2 w2 => ?_) ?_
        · obtain ⟨a, b, ha, hb, rfl⟩ := zips_get h
          have hk : k < A.length := by
            refine Nat.lt_of_not_le fun z => ?_
            rw [List.getElem?_eq_none (by rw [List.length_map]; exact z)] at ha
            cases ha
          rw [List.getElem?_map, List.getElem?_eq_getElem hk] at ha
          rw [List.getElem?_map, List.getElem?_map, List.getElem?_eq_getElem hk] at hb
          cases ha
          cases hb
          have hr := hA _ (List.getElem_mem hk)
          have hpv := hF.pvn (List.getElem_mem hk)
          have ht := (kfold (f := i) hp0 (l := A.take k) (unitR_vc hp.two n i) (fun r hr => hF.pvn (List.mem_of_mem_take hr)) (by
            have := hF.sorted
            rw [List.map_take]
            exact this.sublist (List.take_sublist _ _))).1
          have es : (A.take (k + 1)).foldl (kStep p i) (unitR n i) = kStep p i ((A.take k).foldl (kStep p i) (unitR n i)) A[k] := by
            rw [List.take_add_one, List.getElem?_eq_getElem hk, Option.toList_some, List.foldl_append]
            rfl
          refine ⟨_, gb_tup2, ?_⟩
          refine run_set rfl (ev_op (ev_un (ev_ixT (ev_var rfl) (ev_var rfl) (at_getD 0 (by rw [hr.1]; exact hin))) unv_I) (ev_var rfl) (opv_I hp0)) (ev_var rfl) (ixN_nat (m := mPv A[k]) (by rw [List.length_map, ht.1]; exact hpv)) (cont_nx1 ?_)
          rw [es]
          refine ksle_cons (KLe.refl _) (ksle_cons (KLe.refl _) (ksle_cons (KLe.refl _) (ksle_cons (KLe.refl _) (ksle_cons (KLe.refl _) (ksle_cons (KLe.refl _) (ksle_cons (KLe.refl _) (ksle_cons ?_ ?_)))))))
          · intro z e
            rw [show z = _ from e]
            unfold kStep
            rw [List.map_set]
            rfl
          · walk_at "ks"
        · rw [zips_length, List.length_map, List.length_map, List.length_map, Nat.min_self, List.take_length]
          refine Cont.weak (ks' := [.dat x, .dat (.int (n : Int)), .dat (.int p), .dat (.tup (rws A)), .dat (rw (A.map fun r => (mPv r : Int))), .own (fun z => z = rws (((List.range i).filter fun f => !decide (f ∈ A.map mPv)).map (kRow p n A))), .dat (.int (i : Int)), .own (fun z => z = (kRow p n A i).map D.int), .any, .any]) ?_ (by walk_at "ks")
          refine rs_freeze 7 rfl ?_
          refine run_app rfl (ev_cb (ea_one (ev_var rfl)) cav_tupL) (szl ?_) (cont_nx1 ?_)
          · rw [List.length_map, List.length_map]
            have := List.length_filter_le (fun f => !decide (f ∈ A.map mPv)) (List.range i)
            rw [List.length_range] at this
            omega
          · rw [hs]
            refine ksle_cons (KLe.refl _) (ksle_cons (KLe.refl _) (ksle_cons (KLe.refl _) (ksle_cons (KLe.refl _) (ksle_cons (KLe.refl _) (ksle_cons ?_ ?_)))))
            · intro z e
              rw [show z = _ from e]
              simp [rws]
            · walk_at "ks"
      · have c' : i ∈ A.map mPv := Decidable.byContradiction fun z => by
          rw [decide_eq_false z] at c
          cases c
        rw [if_pos c', List.append_nil] at hs
        refine cont_nx1 ?_
        rw [hs]
        walk_at "ks"
    · rw [ups_length, Int.toNat_natCast]
      refine rs_freeze 5 rfl ?_
      refine run_retP q (Same.refl _) rfl rfl (ev_call (ea_cons (ev_var rfl) (ea_cons (ev_var rfl) (ea_one (ev_var rfl)))) ⟨_, kRows p n A, n, p, rfl, .inl rfl, hp, kRows_vcs hp hF, ?_, hn, rfl⟩) fun d e => e
      have h1 := frees_len hF
      unfold kRows
      rw [List.length_map]
      omega
/-! ### sum_of -/
def S_sum_of : List D → (D → Prop) → Prop := fun ds T => ∃ (a b : List (List Int)) (n : Nat) (p : Int), ds = [.tup (rws a), .tup (rws b), .int (n : Int), .int p] ∧ PR p ∧ Vcs p n a ∧ Vcs p n b ∧ a.length ≤ 1000 ∧ b.length ≤ 1000 ∧ n ≤ 1000 ∧ T = fun d => d = .tup (rws (mRed p n (a ++ b)))
abbrev spec_sum_of (K : PySem.W.Frag) : Sp := spP S_sum_of K
theorem ok_sum_of {P : Program} {w : World} {K : PySem.W.Frag} {mg : Str → Option Value} {base : Heap} {f : Addr} {fd : FuncData} (hB : Bl mg) (D_span : Df P w K mg base "span" 3 ["rows", "width", "p"] (spec_span K)) (F : Fun K "sum_of" "sum_of" s_sum_of f fd) : FnOk P w K mg base (L2.CX P w) 4 f fd ["a", "b", "width", "p"] (spec_sum_of K) := by
  refine F.okX sc_sum_of (fun vs H Q E h => ?_) (fun cdv A outer s H vs Q E hr h => ?_)
  · obtain ⟨M, ds, T, hv, lv, hS, q⟩ := h
    rw [hv.length]
    first | (obtain ⟨rfl, _⟩ := hS; rfl) | (obtain ⟨_, rfl, _⟩ := hS; rfl) | (obtain ⟨_, _, rfl, _⟩ := hS; rfl) | (obtain ⟨_, _, _, rfl, _⟩ := hS; rfl) | (obtain ⟨_, _, _, _, rfl, _⟩ := hS; rfl) | (obtain ⟨_, _, _, _, _, rfl, _⟩ := hS; rfl) | (obtain ⟨_, _, _, _, _, _, rfl, _⟩ := hS; rfl) | (obtain ⟨_, _, _, _, _, _, _, rfl, _⟩ := hS; rfl) | (obtain ⟨_, _, _, _, _, _, _, _, rfl, _⟩ := hS; rfl)
  · skip
    obtain ⟨M, ds, T, hv, lv, ⟨a, b, n, p, rfl, hp, ha, hb, hl1, hl2, hn, rfl⟩, q⟩ := h
    refine ⟨_, PSs.nox ((pss_one (ps_ret (pe_callD D_span (hr.mono (by decide)) (by rfl) (pa_cons (pe_addK K (pv 0) (pv 1)) (pa_cons (pv 2) (pa_cons (pv 3) pa_nil))))))), ?_⟩
    refine inP hv lv [.dat (.tup (rws a)), .dat (.tup (rws b)), .dat (.int (n : Int)), .dat (.int p)] ?_
    exact run_retP q (Same.refl _) rfl rfl (ev_call (ea_cons (Ev.to (ev_op (ev_var rfl) (ev_var rfl) (av_tup (sz (by rw [List.length_map, List.length_map]; omega)))) (e := .tup (rws (a ++ b))) (by show D.tup _ = D.tup _; rw [rws, rws, rws, List.map_append])) (ea_cons (ev_var rfl) (ea_one (ev_var rfl)))) ⟨_, a ++ b, n, p, rfl, .inr rfl, hp, vcs_app ha hb, by rw [List.length_append]; omega, hn, rfl⟩) fun d e => e
/-! ### common_part -/
def S_common_part : List D → (D → Prop) → Prop := fun ds T => ∃ (a b : List (List Int)) (n : Nat) (p : Int), ds = [.tup (rws a), .tup (rws b), .int (n : Int), .int p] ∧ PR p ∧ Vcs p n a ∧ Vcs p n b ∧ a.length ≤ 1000 ∧ b.length ≤ 1000 ∧ n ≤ 1000 ∧ T = fun d => d = .tup (rws (mKer p n (mKer p n a ++ mKer p n b)))
abbrev spec_common_part (K : PySem.W.Frag) : Sp := spP S_common_part K
theorem ok_common_part {P : Program} {w : World} {K : PySem.W.Frag} {mg : Str → Option Value} {base : Heap} {f : Addr} {fd : FuncData} (hB : Bl mg) (D_kernel : Df P w K mg base "kernel" 4 ["rows", "width", "p"] (spec_kernel K)) (F : Fun K "common_part" "common_part" s_common_part f fd) : FnOk P w K mg base (L2.CX P w) 5 f fd ["a", "b", "width", "p"] (spec_common_part K) := by
  refine F.okX sc_common_part (fun vs H Q E h => ?_) (fun cdv A outer s H vs Q E hr h => ?_)
  · obtain ⟨M, ds, T, hv, lv, hS, q⟩ := h
    rw [hv.length]
    first | (obtain ⟨rfl, _⟩ := hS; rfl) | (obtain ⟨_, rfl, _⟩ := hS; rfl) | (obtain ⟨_, _, rfl, _⟩ := hS; rfl) | (obtain ⟨_, _, _, rfl, _⟩ := hS; rfl) | (obtain ⟨_, _, _, _, rfl, _⟩ := hS; rfl) | (obtain ⟨_, _, _, _, _, rfl, _⟩ := hS; rfl) | (obtain ⟨_, _, _, _, _, _, rfl, _⟩ := hS; rfl) | (obtain ⟨_, _, _, _, _, _, _, rfl, _⟩ := hS; rfl) | (obtain ⟨_, _, _, _, _, _, _, _, rfl, _⟩ := hS; rfl)
  · skip
    obtain ⟨M, ds, T, hv, lv, ⟨a, b, n, p, rfl, hp, ha, hb, hl1, hl2, hn, rfl⟩, q⟩ := h
    have ka := ker_len hp ha
    have kb := ker_len hp hb
    refine ⟨_, PSs.nox ((pss_one (ps_ret (pe_callD D_kernel (hr.mono (by decide)) (by rfl) (pa_cons (pe_addK K (pe_callD D_kernel (hr.mono (by decide)) (by rfl) (pa_cons (pv 0) (pa_cons (pv 2) (pa_cons (pv 3) pa_nil)))) (pe_callD D_kernel (hr.mono (by decide)) (by rfl) (pa_cons (pv 1) (pa_cons (pv 2) (pa_cons (pv 3) pa_nil))))) (pa_cons (pv 2) (pa_cons (pv 3) pa_nil))))))), ?_⟩
    refine inP hv lv [.dat (.tup (rws a)), .dat (.tup (rws b)), .dat (.int (n : Int)), .dat (.int p)] ?_
    exact run_retP q (Same.refl _) rfl rfl (ev_call (ea_cons (Ev.to (ev_op (ev_call (ea_cons (ev_var rfl) (ea_cons (ev_var rfl) (ea_one (ev_var rfl)))) ⟨_, a, n, p, rfl, .inr rfl, hp, ha, by omega, hn, rfl⟩) (ev_call (ea_cons (ev_var rfl) (ea_cons (ev_var rfl) (ea_one (ev_var rfl)))) ⟨_, b, n, p, rfl, .inr rfl, hp, hb, by omega, hn, rfl⟩) (av_tup (sz (by rw [List.length_map, List.length_map]; omega)))) (e := .tup (rws (mKer p n a ++ mKer p n b))) (by show D.tup _ = D.tup _; rw [rws, rws, rws, List.map_append])) (ea_cons (ev_var rfl) (ea_one (ev_var rfl)))) ⟨_, mKer p n a ++ mKer p n b, n, p, rfl, .inr rfl, hp, vcs_app (ker_vcs hp ha) (ker_vcs hp hb), by rw [List.length_append]; omega, hn, rfl⟩) fun d e => e
/-! ### members -/
def S_members : List D → (List D → Prop) → Prop := fun ds T => ∃ (x : D) (S : List (List Int)) (n : Nat) (p : Int), ds = [x, .int (n : Int), .int p] ∧ (x = .lst (rws S) ∨ x = .tup (rws S)) ∧ PR p ∧ Vcs p n S ∧ InForm n S ∧ p.toNat ^ S.length ≤ 100000 ∧ n ≤ 1000 ∧ T = fun es => es = rws (mSpan p n S)
abbrev spec_members (K : PySem.W.Frag) : SpT := spT S_members K
theorem in_cf0 {p : Int} {n : Nat} {B : List (List Int)} (hp : 0 < p) (hB : Vcs p n B) {k : Nat} (h : ∀ r ∈ B, cf r k = 0) {v : List Int} (hv : In p n B v) : cf v k = 0 := by
  have hvc := hv.vc hp hB
  clear hvc
  induction hv with
  | zero => exact cf_zer n k
  | @add w r a hw hr ih =>
    rw [cf_add (by rw [(hw.vc hp hB).1, ((hB r hr).scl' hp).1]), cf_scl, ih, h r hr]
    simp
/-- a row of a reduced table is none of the sums of those ahead of it -/
theorem mem_fresh {p : Int} {n : Nat} {S : List (List Int)} (hP : PR p) (hF : InForm n S) (hS : Vcs p n S) {i : Nat} (hi : i < S.length) : S[i] ∉ spanL p n (S.take i) := fun h => by
  have hT : Vcs p n (S.take i) := fun r hr => hS r (List.mem_of_mem_take hr)
  have h1 := (mem_spanL hP hT S[i]).mp h
  have e : S.getD i [] = S[i] := by rw [List.getD_eq_getElem?_getD, List.getElem?_eq_getElem hi]; rfl
  have h2 := in_cf0 hP.pos hT (hF.off1 hi).1 h1
  rw [e] at h2
  have h3 := one_piv hF (List.getElem_mem hi)
  rw [h2] at h3
  exact absurd h3 (by decide)
theorem mem_len {p : Int} (hp : 0 < p) {n m : Nat} {rows : List (List Int)} (h : p.toNat ^ rows.length ≤ m) (i : Nat) : (spanL p n (rows.take i)).length ≤ m := by
  by_cases c : i ≤ rows.length
  · exact Nat.le_trans (Nat.le_trans (spanL_len hp n i rows) (Nat.pow_le_pow_right (by omega) c)) h
  · rw [List.take_of_length_le (by omega)]
    have := spanL_len hp n rows.length rows
    rw [List.take_length] at this
    exact Nat.le_trans this h
theorem mem_sorts {p : Int} (hP : PR p) {n : Nat} {S : List (List Int)} (hF : InForm n S) (hr : Vcs p n S) : (spanL p n S).length ≤ 1 ∨ ∀ r ∈ spanL p n S, r ≠ [] := by
  cases n with
  | succ n =>
    refine .inr fun r h e => ?_
    have := (spanL_vc hP.pos (fun r h => (hr r h).1) r h).1
    rw [e] at this
    cases this
  | zero =>
    refine .inl ?_
    have : S = [] := List.eq_nil_of_length_eq_zero (Nat.le_zero.mp (form_n0 hF))
    rw [this]
    exact Nat.le_refl _
where
  form_n0 {n : Nat} {A : List (List Int)} (hF : InForm n A) : A.length ≤ n := by
    have := frees_len hF
    omega
theorem ok_members {P : Program} {w : World} {K : PySem.W.Frag} {mg : Str → Option Value} {base : Heap} {f : Addr} {fd : FuncData} (hB : Bl mg) (D_add : Df P w K mg base "add" 1 ["v", "w", "p"] (spec_add K)) (D_scaled : Df P w K mg base "scaled" 1 ["v", "a", "p"] (spec_scaled K)) (F : Fun K "members" "members" s_members f fd) : TFn P w K mg base 2 f fd ["space", "width", "p"] (spec_members K) := by
  refine L2.Fun.okT (pre := (defBody s_members).take 2) F sc_members rfl rfl rfl (fun _ _ => rfl) (fun vs H Q h => ?_) (fun cdv A outer s H vs Q pn hr h => ?_)
  · obtain ⟨M, ds, T, hv, lv, hS, q⟩ := h
    rw [hv.length]
    first | (obtain ⟨rfl, _⟩ := hS; rfl) | (obtain ⟨_, rfl, _⟩ := hS; rfl) | (obtain ⟨_, _, rfl, _⟩ := hS; rfl) | (obtain ⟨_, _, _, rfl, _⟩ := hS; rfl) | (obtain ⟨_, _, _, _, rfl, _⟩ := hS; rfl) | (obtain ⟨_, _, _, _, _, rfl, _⟩ := hS; rfl) | (obtain ⟨_, _, _, _, _, _, rfl, _⟩ := hS; rfl) | (obtain ⟨_, _, _, _, _, _, _, rfl, _⟩ := hS; rfl) | (obtain ⟨_, _, _, _, _, _, _, _, rfl, _⟩ := hS; rfl)
  · skip
    obtain ⟨M, ds, T, hv, lv, ⟨x, S, n, p, rfl, hx, hP, hS, hF, hz, hn, rfl⟩, q⟩ := h
    have hp0 := hP.pos
    have hp7 := hP.le
    refine ⟨_, _, (pss_cons (ps_set (i := 3) sc_members.nd rfl (by first | exact Or.inl rfl | exact Or.inr rfl) (pe_lst (pa_cons (pe_mulK K (pe_tup (pa_cons pe_int pa_nil)) (pv 1)) pa_nil)))
            (pss_one (ps_for PassesOwn.never rfl (pi_seqK K (pv 0)) (pg_name (i := 4) sc_members.nd rfl (by first | exact Or.inl rfl | exact Or.inr rfl)) (pss_one (ps_setLc2 (i := 3) (own := [("v", 5), ("a", 6)]) (vs1 := [6]) (g := gName 5) (g1 := gName 6) (tt := tYes) (tt1 := tYes) rfl sc_members.nd rfl rfl (sw_true rfl rfl rfl (by decide +kernel)) (pi_seqK K (pv 3)) (blkOk_by (own := [("v", 5), ("a", 6)]) (by first | rfl | decide +kernel)) (by decide) (fun _ _ _ _ _ => (pg_name (i := 5) sc_members.nd rfl (by first | exact Or.inl rfl | exact Or.inr rfl))) (fun _ _ _ _ _ => pts_nil) (fun _ _ _ _ _ => (pi_range1 (by rfl) hB.b_range (pa_cons (pv 2) pa_nil))) (fun _ _ _ _ _ => (pg_name (i := 6) sc_members.nd rfl (by first | exact Or.inl rfl | exact Or.inr rfl))) (fun _ _ _ _ _ => pts_nil) (fun _ _ _ _ _ => (pe_callD D_add (hr.mono (by decide)) (by rfl) (pa_cons (pv 5) (pa_cons (pe_callD D_scaled (hr.mono (by decide)) (by rfl) (pa_cons (pv 4) (pa_cons (pv 6) (pa_cons (pv 2) pa_nil)))) (pa_cons (pv 2) pa_nil)))))))))), (pe_callB (cr_sortedK K (Room.units65 hr)) (by rfl) hB.b_sorted (by decide +kernel) (pa_cons (pv 3) pa_nil)), ?_⟩
    refine inP hv lv [.dat x, .dat (.int (n : Int)), .dat (.int p), .any, .any, .any, .any] ?_
    refine rs_asg (d := .lst (rws [zer n])) (ev_lst (el_lst (ea_one (Ev.to (ev_op (ev_tup (ea_one ev_int)) (ev_var rfl) (mv_repT (by omega) (by omega))) (e := rw (zer n)) (by rw [Int.toNat_natCast, rw_zer]))))) ?_
    refine run_for (ei_seq (ev_var rfl) hx) (fun i => [.dat x, .dat (.int (n : Int)), .dat (.int p), .dat (.lst (rws (spanL p n (S.take i)))), .any, .any, .any]) (by walk_at "ks") (fun i d h B G w => ?_) ?_
    · rw [List.getElem?_map] at h
      have hi : i < S.length := by
        refine Nat.lt_of_not_le fun z => ?_
        rw [List.getElem?_eq_none z] at h
        cases h
      rw [List.getElem?_eq_getElem hi] at h
      cases h
      have hr := hS _ (List.getElem_mem hi)
      have hl := mem_len (n := n) hp0 hz (i + 1)
      have hV : Vcs p n (spanL p n (S.take i)) := spanL_vc hp0 fun r h => (hS r (List.mem_of_mem_take h)).1
      have es : spanL p n (S.take (i + 1)) = (spanL p n (S.take i)).flatMap fun w => (List.range p.toNat).map fun (a : Nat) => mAdd p w (mScl p (a : Int) S[i]) := by
        rw [List.take_add_one, List.getElem?_eq_getElem hi, Option.toList_some, spanL_snoc]
        unfold spStep
        rw [if_neg (mem_fresh hP hF hS hi)]
      rw [es] at hl
      generalize spanL p n (S.take i) = L at hV es hl
      generalize S[i] = row at hr es hl
      refine ⟨_, gb_name, ?_⟩
      refine run_asg (d := .lst (rws (spanL p n (S.take (i + 1))))) (ev_lst (EvL.to (el_lc2 (xs := L) (enc := rw) (ys := fun _ => List.range p.toNat) (enc1 := fun _ (k : Nat) => D.int (0 + (k : Int))) (b := fun _ _ => true) (f := fun v (a : Nat) => rw (mAdd p v (mScl p (a : Int) row))) (ei_seqL (ev_var rfl)) (sz ?a) fun v hv => ⟨_, gw_nameT, ei_rng1 (n := ((p.toNat : Nat) : Int)) (ea_one (Ev.to (ev_var rfl) (by rw [Int.toNat_of_nonneg (by omega)]))) (by omega), fun y hy => ⟨_, gw_name, et_yes, fun _ => ?e⟩⟩) ?b)) (cont_nx1 (by walk_at "ks"))
      case a =>
        have : (L.flatMap fun x => ((List.range p.toNat).filter (fun _ => true)).map fun (a : Nat) => rw (mAdd p x (mScl p (a : Int) row))).length = (L.flatMap fun w => (List.range p.toNat).map fun (a : Nat) => mAdd p w (mScl p (a : Int) row)).length := by
          rw [flatMap_len (m := p.toNat) _ (fun w => by rw [List.length_map, List.filter_eq_self.mpr fun _ _ => rfl, List.length_range]), flatMap_len (m := p.toNat) _ (fun w => by rw [List.length_map, List.length_range])]
        omega
      case e =>
        have hv := hV v hv
        have hy := List.mem_range.mp hy
        exact ev_call (ea_cons (ev_var rfl) (ea_cons (ev_call (ea_cons (ev_var rfl) (ea_cons (Ev.to (ev_var rfl) (e := .int (y : Int)) (by rw [Int.zero_add])) (ea_one (ev_var rfl)))) ⟨row, y, p, rfl, hp0, by omega, by omega, by rw [hr.1]; exact hn, rfl⟩) (ea_one (ev_var rfl)))) ⟨v, mScl p y row, p, rfl, hp0, by rw [hv.1, (hr.scl' hp0).1], by rw [hv.1]; exact hn, rfl⟩
      case b =>
        rw [es]
        unfold rws
        rw [List.map_flatMap]
        refine congrArg (fun f => L.flatMap f) (funext fun w => ?_)
        rw [List.filter_eq_self.mpr fun _ _ => rfl, List.map_map]
        rfl
    · rw [List.length_map, List.take_length]
      exact gen_endL (el_cb (ea_one (ev_var rfl)) (cavl_sorted (mem_sorts hP hF hS))) q
/-! ### _law_state -/
def S__law_state : List D → (List D → Prop) → Prop := fun ds T => ∃ ns : List Int, ds = [.sls (ns.map D.int)] ∧ T = stOk
abbrev spec__law_state (K : PySem.W.Frag) : Sp := spL S__law_state K
theorem ok__law_state {P : Program} {w : World} {K : PySem.W.Frag} {mg : Str → Option Value} {base : Heap} {f : Addr} {fd : FuncData} (hB : Bl mg) (F : Fun K "_law_state" "_law_state" s__law_state f fd) : FnOk P w K mg base (L2.CX P w) 1 f fd ["_law_script"] (spec__law_state K) := by
  refine F.okX sc__law_state (fun vs H Q E h => ?_) (fun cdv A outer s H vs Q E hr h => ?_)
  · obtain ⟨M, ds, T, hv, lv, hS, q⟩ := h
    rw [hv.length]
    first | (obtain ⟨rfl, _⟩ := hS; rfl) | (obtain ⟨_, rfl, _⟩ := hS; rfl) | (obtain ⟨_, _, rfl, _⟩ := hS; rfl) | (obtain ⟨_, _, _, rfl, _⟩ := hS; rfl) | (obtain ⟨_, _, _, _, rfl, _⟩ := hS; rfl) | (obtain ⟨_, _, _, _, _, rfl, _⟩ := hS; rfl) | (obtain ⟨_, _, _, _, _, _, rfl, _⟩ := hS; rfl) | (obtain ⟨_, _, _, _, _, _, _, rfl, _⟩ := hS; rfl) | (obtain ⟨_, _, _, _, _, _, _, _, rfl, _⟩ := hS; rfl)
  · skip
    obtain ⟨M, ds, T, hv, lv, ⟨ns, rfl, rfl⟩, q⟩ := h
    refine ⟨_, PSs.nox ((pss_cons (ps_set (i := 1) sc__law_state.nd rfl (by first | exact Or.inl rfl | exact Or.inr rfl) pe_int)
            (pss_cons (ps_set (i := 2) sc__law_state.nd rfl (by first | exact Or.inl rfl | exact Or.inr rfl) pe_int)
            (pss_cons (ps_for PassesOwn.never rfl (pi_seqK K (pe_sliceK K (pv 0) po_none (po_some pe_int))) (pg_name (i := 3) sc__law_state.nd rfl (by first | exact Or.inl rfl | exact Or.inr rfl)) (pss_cons (ps_set (i := 1) sc__law_state.nd rfl (by first | exact Or.inl rfl | exact Or.inr rfl) (pe_addK K (pe_mulK K (pv 1) pe_int) (pe_callB call_abs (by rfl) hB.b_abs (by decide +kernel) (pa_cons (pv 3) pa_nil))))
            (pss_one (ps_set (i := 2) sc__law_state.nd rfl (by first | exact Or.inl rfl | exact Or.inr rfl) (pe_op op_mod (pe_callTy call_int1 (by rfl) hB.b_int (by decide +kernel) (pa_cons (pe_addK K (pe_mulK K (pv 2) pe_int) (pv 3)) pa_nil)) pe_int)))))
            (pss_one (ps_ret (pe_lst (pa_cons (pv 1) (pa_cons (pv 2) pa_nil))))))))), ?_⟩
    refine inP hv lv [.dat (.sls (ns.map D.int)), .any, .any, .any] ?_
    refine rs_asg ev_int (rs_asg ev_int ?_)
    refine rs_forR (ei_seqN (el_slS' (ev_var rfl) eo_none (eo_some ev_int))) (fun _ i ks => ∃ s t : Int, 0 ≤ s ∧ 0 ≤ t ∧ KsLe ks [.dat (.sls (ns.map D.int)), .dat (.int s), .dat (.int t), .any]) (fun _ _ => ⟨0, 1, by decide, by decide, KsLe.rfl' _⟩) (fun items i d ks' e h hI B G w => ?_) fun items ks' e hI => ?_
    · obtain ⟨s, t, hs, ht, hk⟩ := hI
      obtain ⟨c, rfl⟩ : ∃ c, d = .int c := by
        rw [e] at h
        have h2 := List.mem_of_getElem? h
        obtain ⟨c, _, e2⟩ := List.mem_map.mp (List.mem_of_mem_drop (List.mem_of_mem_take h2))
        exact ⟨c, e2.symm⟩
      refine ⟨_, gb_name, Cont.weak (ks' := [.dat (.sls (ns.map D.int)), .dat (.int s), .dat (.int t), .dat (.int c)]) ?_ (ksle_set hk (KLe.refl _))⟩
      refine rs_asg (ev_op (ev_op (ev_var rfl) ev_int (mv_int (cm_r (by decide)))) (ev_cb (ea_one (ev_var rfl)) cav_abs) av_int) ?_
      refine run_asg (ev_op (ev_cb (ea_one (ev_op (ev_op (ev_var rfl) ev_int (mv_int (cm_r (by decide)))) (ev_var rfl) av_int)) cav_int) ev_int (opv_I (by decide))) (cont_nx ⟨s * 1000003 + (if c < 0 then -c else c), (t * 48271 + c) % 2147483647, ?_, ?_, ?_⟩)
      · split <;> omega
      · exact Int.emod_nonneg _ (by decide)
      · walk_at "ks"
    · obtain ⟨s, t, hs, ht, hk⟩ := hI
      refine rs_weak ?_ hk
      exact run_retL q (Same.refl _) rfl rfl (el_lst (ea_cons (ev_var rfl) (ea_one (ev_var rfl)))) fun d e => ⟨s, t, e, hs, ht⟩
/-! ### _law_take -/
def S__law_take : List D → (D → Prop) → Prop := fun ds T => ∃ m : Int, ds = [.int m] ∧ 0 < m ∧ m < 2 ^ 30 ∧ T = fun d => ∃ r : Int, 0 ≤ r ∧ r < m ∧ d = .int r
abbrev spec__law_take (K : PySem.W.Frag) : Sp := spS stOk S__law_take K
theorem ok__law_take {P : Program} {w : World} {K : PySem.W.Frag} {mg : Str → Option Value} {base : Heap} {f : Addr} {fd : FuncData} (hB : Bl mg) (F : Fun K "_law_take" "_law_take" s__law_take f fd) : FnOk P w K mg base (L2.CX P w) 1 f fd ["_law_state_here", "_law_m"] (spec__law_take K) := by
  refine F.okX sc__law_take (fun vs H Q E h => ?_) (fun cdv A outer s H vs Q E hr h => ?_)
  · obtain ⟨M, a, us, vs0, ds0, ds, T, rfl, _, _, _, _, hv, lv, hS, q⟩ := h
    rw [List.length_cons, hv.length]
    first | (obtain ⟨rfl, _⟩ := hS; rfl) | (obtain ⟨_, rfl, _⟩ := hS; rfl) | (obtain ⟨_, _, rfl, _⟩ := hS; rfl) | (obtain ⟨_, _, _, rfl, _⟩ := hS; rfl) | (obtain ⟨_, _, _, _, rfl, _⟩ := hS; rfl) | (obtain ⟨_, _, _, _, _, rfl, _⟩ := hS; rfl) | (obtain ⟨_, _, _, _, _, _, rfl, _⟩ := hS; rfl) | (obtain ⟨_, _, _, _, _, _, _, rfl, _⟩ := hS; rfl) | (obtain ⟨_, _, _, _, _, _, _, _, rfl, _⟩ := hS; rfl)
  · skip
    obtain ⟨M, a, us, vs0, ds0, ds, T, rfl, ha, hl0, h0, hφ, hv, lv, ⟨m, rfl, hm, hm2, rfl⟩, q⟩ := h
    refine ⟨_, PSs.nox ((pss_cons (ps_if (pt_cmpR op_gt (pe_ixK K (pv 0) pe_int (fun _ _ => rfl)) pe_int (nomark _)) (pss_cons (ps_set (i := 2) sc__law_take.nd rfl (by first | exact Or.inl rfl | exact Or.inr rfl) (pe_op op_mod (pe_callTy call_int1 (by rfl) hB.b_int (by decide +kernel) (pa_cons (pe_ixK K (pv 0) pe_int (fun _ _ => rfl)) pa_nil)) (pv 1)))
            (pss_cons (ps_asg (pe_op op_fdiv (pe_ixK K (pv 0) pe_int (fun _ _ => rfl)) (pv 1)) (pg_sub (pv 0) pe_int set_list))
            (pss_one (ps_ret (pv 2))))) pss_nil)
            (pss_cons (ps_asg (pe_op op_mod (pe_callTy call_int1 (by rfl) hB.b_int (by decide +kernel) (pa_cons (pe_addK K (pe_mulK K (pe_ixK K (pv 0) pe_int (fun _ _ => rfl)) pe_int) pe_int) pa_nil)) pe_int) (pg_sub (pv 0) pe_int set_list))
            (pss_one (ps_ret (pe_op op_mod (pe_callTy call_int1 (by rfl) hB.b_int (by decide +kernel) (pa_cons (pe_op op_fdiv (pe_ixK K (pv 0) pe_int (fun _ _ => rfl)) pe_int) pa_nil)) (pv 1))))))), ?_⟩
    refine inS ha hl0 h0 hφ hv lv [.bor stOk, .dat (.int m), .any] ?_
    refine cont_open (i := 0) rfl rfl fun es hes => ?_
    obtain ⟨s, t, rfl, hs, ht⟩ := hes
    refine rs_if (et_test (ev_op (ev_ixM (j := 0) (R := fun d => d = .int s) rfl rfl ev_int fun ds e => ⟨_, by rw [show ds = _ from e]; exact atI_nat (j := 0) rfl, rfl⟩) ev_int opv_B0)) (fun c => ?_) fun c => ?_
    · refine rs_asg (ev_op (ev_cb (ea_one (ev_ixM (j := 0) (R := fun d => d = .int s) rfl rfl ev_int fun ds e => ⟨_, by rw [show ds = _ from e]; exact atI_nat (j := 0) rfl, rfl⟩)) cav_int) (ev_var rfl) (opv_I hm)) ?_
      refine rs_setB (n := 0) (ψ := stOk) (ds := [.int s, .int t]) rfl rfl (fun x e => e) (ev_op (ev_ixM (j := 0) (R := fun d => d = .int s) rfl rfl ev_int fun ds e => ⟨_, by rw [show ds = _ from e]; exact atI_nat (j := 0) rfl, rfl⟩) (ev_var rfl) (opv_I ⟨hm, hm2⟩)) ev_int rfl ⟨_, _, rfl, Int.ediv_nonneg hs (Int.le_of_lt hm), ht⟩ ?_
      refine run_retS q (Same.refl _) lv rfl rfl (i := 0) rfl (ev_var rfl) fun d e => ⟨_, (emod_in hm s).1, (emod_in hm s).2, e⟩
    · refine rs_setB (n := 1) (ψ := fun x => x = [.int s, .int ((t * 48271 + 11) % 2147483647)]) (ds := [.int s, .int t]) (d := .int ((t * 48271 + 11) % 2147483647)) rfl rfl (fun x e => e) (ev_op (ev_cb (ea_one (ev_op (ev_op (ev_ixM (j := 1) (R := fun d => d = .int t) rfl rfl ev_int fun ds e => ⟨_, by rw [show ds = _ from e]; exact atI_nat (j := 1) rfl, rfl⟩) ev_int (mv_int (cm_r (by decide)))) ev_int av_int)) cav_int) ev_int (opv_I (by decide))) ev_int rfl rfl ?_
      refine run_retSw q (Same.refl _) lv rfl rfl (i := 0) rfl (fun x e => ⟨s, _, e, hs, Int.emod_nonneg _ (by decide)⟩) (ev_op (ev_cb (ea_one (ev_op (ev_ixM (j := 1) (R := fun d => d = .int ((t * 48271 + 11) % 2147483647)) rfl rfl ev_int fun ds e => ⟨_, by rw [show ds = _ from e]; exact atI_nat (j := 1) rfl, rfl⟩) ev_int (opv_I ⟨by decide, by decide⟩))) cav_int) (ev_var rfl) (opv_I hm)) fun d e => ⟨_, (emod_in hm _).1, (emod_in hm _).2, e⟩
/-! ### _law_sum -/
def S__law_sum : List D → (D → Prop) → Prop := fun ds T => ∃ (v w : List Int) (p : Int), ds = [rw v, rw w, .int p] ∧ 0 < p ∧ v.length = w.length ∧ v.length ≤ 1000 ∧ T = fun d => d = rw (mAdd p v w)
abbrev spec__law_sum (K : PySem.W.Frag) : Sp := spP S__law_sum K
theorem ok__law_sum {P : Program} {w : World} {K : PySem.W.Frag} {mg : Str → Option Value} {base : Heap} {f : Addr} {fd : FuncData} (hB : Bl mg) (F : Fun K "_law_sum" "_law_sum" s__law_sum f fd) : FnOk P w K mg base (L2.CX P w) 1 f fd ["_law_v", "_law_w", "_law_p"] (spec__law_sum K) := by
  refine F.okX sc__law_sum (fun vs H Q E h => ?_) (fun cdv A outer s H vs Q E hr h => ?_)
  · obtain ⟨M, ds, T, hv, lv, hS, q⟩ := h
    rw [hv.length]
    first | (obtain ⟨rfl, _⟩ := hS; rfl) | (obtain ⟨_, rfl, _⟩ := hS; rfl) | (obtain ⟨_, _, rfl, _⟩ := hS; rfl) | (obtain ⟨_, _, _, rfl, _⟩ := hS; rfl) | (obtain ⟨_, _, _, _, rfl, _⟩ := hS; rfl) | (obtain ⟨_, _, _, _, _, rfl, _⟩ := hS; rfl) | (obtain ⟨_, _, _, _, _, _, rfl, _⟩ := hS; rfl) | (obtain ⟨_, _, _, _, _, _, _, rfl, _⟩ := hS; rfl) | (obtain ⟨_, _, _, _, _, _, _, _, rfl, _⟩ := hS; rfl)
  · skip
    obtain ⟨M, ds, T, hv, lv, ⟨v, w, p, rfl, hp, hl, hn, rfl⟩, q⟩ := h
    refine ⟨_, PSs.nox ((pss_one (ps_ret (pe_callTy (call_tupleK K) (by rfl) hB.b_tuple (by decide +kernel) (pa_cons (pe_lc (own := [("_law_k", 3)]) (g := gName 3) (tt := tYes) rfl sc__law_sum.nd (pi_range1 (by rfl) hB.b_range (pa_cons (pe_callB (call_lenK K) (by rfl) hB.b_len PySem.boot_len (pa_cons (pv 0) pa_nil)) pa_nil)) (blkOk_by (own := [("_law_k", 3)]) (by first | rfl | decide +kernel)) (fun _ _ _ _ _ => (pg_name (i := 3) sc__law_sum.nd rfl (by first | exact Or.inl rfl | exact Or.inr rfl))) (fun _ _ _ _ _ => pts_nil) (fun _ _ _ _ _ => (pe_op op_mod (pe_callTy call_int1 (by rfl) hB.b_int (by decide +kernel) (pa_cons (pe_addK K (pe_ixK K (pv 0) (pv 3) (fun _ _ => rfl)) (pe_ixK K (pv 1) (pv 3) (fun _ _ => rfl))) pa_nil)) (pv 2)))) pa_nil))))), ?_⟩
    refine inP hv lv [.dat (rw v), .dat (rw w), .dat (.int p), .any] ?_
    refine run_retP q (Same.refl _) rfl rfl (ev_tuple (el_map (xs := List.range v.length) (enc := fun k => .int (0 + (k : Nat))) (f := fun k => .int ((v.getD k 0 + w.getD k 0) % p)) ?a (sz (by rw [List.length_range]; omega)) fun k hk => ⟨_, gw_name, ?b⟩)) fun d e => ?c
    case a => exact ei_rng1 (n := (v.length : Nat)) (ea_one (ev_cb (ea_one (ev_var rfl)) (fun M σ H o vs a Q q => cav_lenT M σ H o vs a Q fun z d H' o' s' a' e => q z d H' o' s' a' (by rw [e, List.length_map])))) (by omega)
    case b =>
      have hk' := List.mem_range.mp hk
      exact ev_op (ev_cb (ea_one (ev_op (ev_ixT (i := 0 + (k : Int)) (ev_var rfl) (ev_var rfl) (by rw [Int.zero_add]; exact at_getD 0 hk')) (ev_ixT (i := 0 + (k : Int)) (ev_var rfl) (ev_var rfl) (by rw [Int.zero_add]; exact at_getD 0 (by omega))) av_int)) cav_int) (ev_var rfl) (opv_I hp)
    case c => rw [e, rw_map, map_range_zip (fun x y => (x + y) % p) hl]; rfl
/-! ### _law_scaled -/
def S__law_scaled : List D → (D → Prop) → Prop := fun ds T => ∃ (v : List Int) (a p : Int), ds = [rw v, .int a, .int p] ∧ 0 < p ∧ -(2 ^ 64) < a ∧ a < 2 ^ 64 ∧ v.length ≤ 1000 ∧ T = fun d => d = rw (mScl p a v)
abbrev spec__law_scaled (K : PySem.W.Frag) : Sp := spP S__law_scaled K
theorem ok__law_scaled {P : Program} {w : World} {K : PySem.W.Frag} {mg : Str → Option Value} {base : Heap} {f : Addr} {fd : FuncData} (hB : Bl mg) (F : Fun K "_law_scaled" "_law_scaled" s__law_scaled f fd) : FnOk P w K mg base (L2.CX P w) 1 f fd ["_law_v", "_law_a", "_law_p"] (spec__law_scaled K) := by
  refine F.okX sc__law_scaled (fun vs H Q E h => ?_) (fun cdv A outer s H vs Q E hr h => ?_)
  · obtain ⟨M, ds, T, hv, lv, hS, q⟩ := h
    rw [hv.length]
    first | (obtain ⟨rfl, _⟩ := hS; rfl) | (obtain ⟨_, rfl, _⟩ := hS; rfl) | (obtain ⟨_, _, rfl, _⟩ := hS; rfl) | (obtain ⟨_, _, _, rfl, _⟩ := hS; rfl) | (obtain ⟨_, _, _, _, rfl, _⟩ := hS; rfl) | (obtain ⟨_, _, _, _, _, rfl, _⟩ := hS; rfl) | (obtain ⟨_, _, _, _, _, _, rfl, _⟩ := hS; rfl) | (obtain ⟨_, _, _, _, _, _, _, rfl, _⟩ := hS; rfl) | (obtain ⟨_, _, _, _, _, _, _, _, rfl, _⟩ := hS; rfl)
  · skip
    obtain ⟨M, ds, T, hv, lv, ⟨v, a, p, rfl, hp, ha, hb, hn, rfl⟩, q⟩ := h
    refine ⟨_, PSs.nox ((pss_one (ps_ret (pe_callTy (call_tupleK K) (by rfl) hB.b_tuple (by decide +kernel) (pa_cons (pe_lc (own := [("_law_x", 3)]) (g := gName 3) (tt := tYes) rfl sc__law_scaled.nd (pi_seqK K (pv 0)) (blkOk_by (own := [("_law_x", 3)]) (by first | rfl | decide +kernel)) (fun _ _ _ _ _ => (pg_name (i := 3) sc__law_scaled.nd rfl (by first | exact Or.inl rfl | exact Or.inr rfl))) (fun _ _ _ _ _ => pts_nil) (fun _ _ _ _ _ => (pe_op op_mod (pe_callTy call_int1 (by rfl) hB.b_int (by decide +kernel) (pa_cons (pe_mulK K (pv 3) (pv 1)) pa_nil)) (pv 2)))) pa_nil))))), ?_⟩
    refine inP hv lv [.dat (rw v), .dat (.int a), .dat (.int p), .any] ?_
    refine run_retP q (Same.refl _) rfl rfl (ev_tuple (el_map (xs := v) (enc := D.int) (f := fun x => .int (x * a % p)) (ei_seqT (ev_var rfl)) (sz (by omega)) fun k hk => ⟨_, gw_name, ev_op (ev_cb (ea_one (ev_op (ev_var rfl) (ev_var rfl) (mv_int (cm_r ⟨ha, hb⟩)))) cav_int) (ev_var rfl) (opv_I hp)⟩)) fun d e => ?_
    rw [e, rw_map]
    rfl
/-! ### _law_zero -/
def S__law_zero : List D → (D → Prop) → Prop := fun ds T => ∃ (n : Nat), ds = [.int (n : Int)] ∧ n ≤ 1000 ∧ T = fun d => d = rw (zer n)
abbrev spec__law_zero (K : PySem.W.Frag) : Sp := spP S__law_zero K
theorem ok__law_zero {P : Program} {w : World} {K : PySem.W.Frag} {mg : Str → Option Value} {base : Heap} {f : Addr} {fd : FuncData} (hB : Bl mg) (F : Fun K "_law_zero" "_law_zero" s__law_zero f fd) : FnOk P w K mg base (L2.CX P w) 1 f fd ["_law_n"] (spec__law_zero K) := by
  refine F.okX sc__law_zero (fun vs H Q E h => ?_) (fun cdv A outer s H vs Q E hr h => ?_)
  · obtain ⟨M, ds, T, hv, lv, hS, q⟩ := h
    rw [hv.length]
    first | (obtain ⟨rfl, _⟩ := hS; rfl) | (obtain ⟨_, rfl, _⟩ := hS; rfl) | (obtain ⟨_, _, rfl, _⟩ := hS; rfl) | (obtain ⟨_, _, _, rfl, _⟩ := hS; rfl) | (obtain ⟨_, _, _, _, rfl, _⟩ := hS; rfl) | (obtain ⟨_, _, _, _, _, rfl, _⟩ := hS; rfl) | (obtain ⟨_, _, _, _, _, _, rfl, _⟩ := hS; rfl) | (obtain ⟨_, _, _, _, _, _, _, rfl, _⟩ := hS; rfl) | (obtain ⟨_, _, _, _, _, _, _, _, rfl, _⟩ := hS; rfl)
  · skip
    obtain ⟨M, ds, T, hv, lv, ⟨n, rfl, hn, rfl⟩, q⟩ := h
    refine ⟨_, PSs.nox ((pss_one (ps_ret (pe_callTy (call_tupleK K) (by rfl) hB.b_tuple (by decide +kernel) (pa_cons (pe_lc (own := [("_law_k", 1)]) (g := gName 1) (tt := tYes) rfl sc__law_zero.nd (pi_range1 (by rfl) hB.b_range (pa_cons (pv 0) pa_nil)) (blkOk_by (own := [("_law_k", 1)]) (by first | rfl | decide +kernel)) (fun _ _ _ _ _ => (pg_name (i := 1) sc__law_zero.nd rfl (by first | exact Or.inl rfl | exact Or.inr rfl))) (fun _ _ _ _ _ => pts_nil) (fun _ _ _ _ _ => pe_int)) pa_nil))))), ?_⟩
    refine inP hv lv [.dat (.int (n : Int)), .any] ?_
    refine run_retP q (Same.refl _) rfl rfl (ev_tuple (el_map (xs := List.range n) (enc := fun k => .int (0 + (k : Nat))) (f := fun k => .int 0) ?a (sz (by rw [List.length_range]; omega)) fun k hk => ⟨_, gw_name, ev_int⟩)) fun d e => ?c
    case a => exact ei_rng1 (n := (n : Nat)) (ea_one (ev_var rfl)) (by omega)
    case c => rw [e, rw_map (fun _ => (0 : Int)), zer_map]
/-! ### _law_element -/
def S__law_element : List D → (D → Prop) → Prop := fun ds T => ∃ (p : Int) (n : Nat), ds = [.int p, .int (n : Int)] ∧ 0 < p ∧ p < 2 ^ 30 ∧ n ≤ 1000 ∧ T = fun d => ∃ v, Vc p n v ∧ d = rw v
abbrev spec__law_element (K : PySem.W.Frag) : Sp := spS stOk S__law_element K
theorem ok__law_element {P : Program} {w : World} {K : PySem.W.Frag} {mg : Str → Option Value} {base : Heap} {f : Addr} {fd : FuncData} (hB : Bl mg) (D__law_take : Df P w K mg base "_law_take" 1 ["_law_state_here", "_law_m"] (spec__law_take K)) (F : Fun K "_law_element" "_law_element" s__law_element f fd) : FnOk P w K mg base (L2.CX P w) 2 f fd ["_law_state_here", "_law_p", "_law_n"] (spec__law_element K) := by
  refine F.okX sc__law_element (fun vs H Q E h => ?_) (fun cdv A outer s H vs Q E hr h => ?_)
  · obtain ⟨M, a, us, vs0, ds0, ds, T, rfl, _, _, _, _, hv, lv, hS, q⟩ := h
    rw [List.length_cons, hv.length]
    first | (obtain ⟨rfl, _⟩ := hS; rfl) | (obtain ⟨_, rfl, _⟩ := hS; rfl) | (obtain ⟨_, _, rfl, _⟩ := hS; rfl) | (obtain ⟨_, _, _, rfl, _⟩ := hS; rfl) | (obtain ⟨_, _, _, _, rfl, _⟩ := hS; rfl) | (obtain ⟨_, _, _, _, _, rfl, _⟩ := hS; rfl) | (obtain ⟨_, _, _, _, _, _, rfl, _⟩ := hS; rfl) | (obtain ⟨_, _, _, _, _, _, _, rfl, _⟩ := hS; rfl) | (obtain ⟨_, _, _, _, _, _, _, _, rfl, _⟩ := hS; rfl)
  · skip
    obtain ⟨M, a, us, vs0, ds0, ds, T, rfl, ha, hl0, h0, hφ, hv, lv, ⟨p, n, rfl, hp, hp2, hn, rfl⟩, q⟩ := h
    refine ⟨_, PSs.nox ((pss_one (ps_ret (pe_callTy (call_tupleK K) (by rfl) hB.b_tuple (by decide +kernel) (pa_cons (pe_lc (own := [("_law_k", 3)]) (g := gName 3) (tt := tYes) rfl sc__law_element.nd (pi_range1 (by rfl) hB.b_range (pa_cons (pv 2) pa_nil)) (blkOk_by (own := [("_law_k", 3)]) (by first | rfl | decide +kernel)) (fun _ _ _ _ _ => (pg_name (i := 3) sc__law_element.nd rfl (by first | exact Or.inl rfl | exact Or.inr rfl))) (fun _ _ _ _ _ => pts_nil) (fun _ _ _ _ _ => (pe_callD D__law_take (hr.mono (by decide)) (by rfl) (pa_cons (pv 0) (pa_cons (pv 1) pa_nil))))) pa_nil))))), ?_⟩
    refine inS ha hl0 h0 hφ hv lv [.bor stOk, .dat (.int p), .dat (.int (n : Int)), .any] ?_
    refine run_retS q (Same.refl _) lv rfl rfl (i := 0) rfl (ev_tupleR (el_mapR (xs := List.range n) (enc := fun k => .int (0 + (k : Nat))) (R := fun _ d => ∃ r : Int, 0 ≤ r ∧ r < p ∧ d = .int r) ?a (sz (by rw [List.length_range]; omega)) fun k hk => ⟨_, gw_name, ev_callS (i := 0) rfl rfl rfl (ea_one (ev_var rfl)) ⟨p, rfl, hp, hp2, rfl⟩⟩)) fun d e => ?c
    case a => exact ei_rng1 (n := (n : Nat)) (ea_one (ev_var rfl)) (by omega)
    case c =>
      obtain ⟨es, h1, e⟩ := e
      obtain ⟨v, hv, e2⟩ := paired_vc h1
      rw [List.length_range] at hv
      exact ⟨v, hv, by rw [e, e2]⟩
/-! ### _law_span -/
def S__law_span : List D → (List D → Prop) → Prop := fun ds T => ∃ (x : D) (rows : List (List Int)) (n : Nat) (p : Int), ds = [x, .int (n : Int), .int p] ∧ (x = .lst (rws rows) ∨ x = .tup (rws rows)) ∧ PR p ∧ Vcs p n rows ∧ p.toNat ^ rows.length ≤ 100000 ∧ n ≤ 1000 ∧ T = fun es => es = rws (mSpan p n rows)
abbrev spec__law_span (K : PySem.W.Frag) : Sp := spL S__law_span K
theorem spanL_len' {p : Int} (hp : 0 < p) {n m : Nat} {rows : List (List Int)} (h : p.toNat ^ rows.length ≤ m) (i : Nat) : (spanL p n (rows.take i)).length ≤ m := by
  by_cases c : i ≤ rows.length
  · exact Nat.le_trans (Nat.le_trans (spanL_len hp n i rows) (Nat.pow_le_pow_right (by omega) c)) h
  · rw [List.take_of_length_le (by omega)]
    have := spanL_len hp n rows.length rows
    rw [List.take_length] at this
    exact Nat.le_trans this h
theorem span_sorts {p : Int} (hp : 0 < p) {n : Nat} {rows : List (List Int)} (hr : Vcs p n rows) : (spanL p n rows).length ≤ 1 ∨ ∀ r ∈ spanL p n rows, r ≠ [] := by
  cases n with
  | succ n =>
    refine .inr fun r h e => ?_
    have := (spanL_vc hp (fun r h => (hr r h).1) r h).1
    rw [e] at this
    cases this
  | zero =>
    refine .inl ?_
    have key : ∀ l : List (List Int), (∀ r ∈ l, r = []) → l.foldl (spStep p) [zer 0] = [zer 0] := by
      intro l
      induction l with
      | nil => intro _; rfl
      | cons a t ih =>
        intro h
        rw [List.foldl_cons, h a List.mem_cons_self, show spStep p [zer 0] [] = [zer 0] from rfl]
        exact ih fun r hr => h r (List.mem_cons_of_mem _ hr)
    show (rows.foldl (spStep p) [zer 0]).length ≤ 1
    rw [key rows fun r h => List.eq_nil_of_length_eq_zero (hr r h).1]
    exact Nat.le_refl _
def lgr (p : Int) (row : List Int) (l : List (List Int)) : List (List Int) := l.flatMap fun w => (List.range p.toNat).map fun (a : Nat) => mAdd p w (mScl p (a : Int) row)
theorem lgr_len (p : Int) (row : List Int) (l : List (List Int)) : (lgr p row l).length = l.length * p.toNat := flatMap_len _ _ (fun w => by rw [List.length_map, List.length_range]) l
theorem lgr_snoc (p : Int) (row : List Int) (l : List (List Int)) (w : List Int) : lgr p row (l ++ [w]) = lgr p row l ++ (List.range p.toNat).map fun (a : Nat) => mAdd p w (mScl p (a : Int) row) := by
  unfold lgr
  rw [List.flatMap_append]
  simp
theorem ok__law_span {P : Program} {w : World} {K : PySem.W.Frag} {mg : Str → Option Value} {base : Heap} {f : Addr} {fd : FuncData} (hB : Bl mg) (D__law_sum : Df P w K mg base "_law_sum" 1 ["_law_v", "_law_w", "_law_p"] (spec__law_sum K)) (D__law_scaled : Df P w K mg base "_law_scaled" 1 ["_law_v", "_law_a", "_law_p"] (spec__law_scaled K)) (D__law_zero : Df P w K mg base "_law_zero" 1 ["_law_n"] (spec__law_zero K)) (F : Fun K "_law_span" "_law_span" s__law_span f fd) : FnOk P w K mg base (L2.CX P w) 2 f fd ["_law_rows_here", "_law_n", "_law_p"] (spec__law_span K) := by
  refine F.okX sc__law_span (fun vs H Q E h => ?_) (fun cdv A outer s H vs Q E hr h => ?_)
  · obtain ⟨M, ds, T, hv, lv, hS, q⟩ := h
    rw [hv.length]
    first | (obtain ⟨rfl, _⟩ := hS; rfl) | (obtain ⟨_, rfl, _⟩ := hS; rfl) | (obtain ⟨_, _, rfl, _⟩ := hS; rfl) | (obtain ⟨_, _, _, rfl, _⟩ := hS; rfl) | (obtain ⟨_, _, _, _, rfl, _⟩ := hS; rfl) | (obtain ⟨_, _, _, _, _, rfl, _⟩ := hS; rfl) | (obtain ⟨_, _, _, _, _, _, rfl, _⟩ := hS; rfl) | (obtain ⟨_, _, _, _, _, _, _, rfl, _⟩ := hS; rfl) | (obtain ⟨_, _, _, _, _, _, _, _, rfl, _⟩ := hS; rfl)
  · skip
    obtain ⟨M, ds, T, hv, lv, ⟨x, rows, n, p, rfl, hx, hp, hR, hz, hn, rfl⟩, q⟩ := h
    have hp0 := hp.pos
    have hp7 := hp.le
    refine ⟨_, PSs.nox ((pss_cons (ps_set (i := 3) sc__law_span.nd rfl (by first | exact Or.inl rfl | exact Or.inr rfl) (pe_lst (pa_cons (pe_callD D__law_zero (hr.mono (by decide)) (by rfl) (pa_cons (pv 1) pa_nil)) pa_nil)))
            (pss_cons (ps_for PassesOwn.never rfl (pi_seqK K (pv 0)) (pg_name (i := 4) sc__law_span.nd rfl (by first | exact Or.inl rfl | exact Or.inr rfl)) (pss_one (ps_if (pt_cmpR (op_notInK K (Room.units65 hr)) (pv 4) (pv 3) (by with_unfolding_all rfl)) (pss_cons (ps_set (i := 5) sc__law_span.nd rfl (by first | exact Or.inl rfl | exact Or.inr rfl) (pe_lst pa_nil))
            (pss_cons (ps_for PassesOwn.never rfl (pi_seqK K (pv 3)) (pg_name (i := 6) sc__law_span.nd rfl (by first | exact Or.inl rfl | exact Or.inr rfl)) (pss_one (ps_set (i := 5) sc__law_span.nd rfl (by first | exact Or.inl rfl | exact Or.inr rfl) (pe_addK K (pv 5) (pe_lc (own := [("_law_a", 7)]) (g := gName 7) (tt := tYes) rfl sc__law_span.nd (pi_range1 (by rfl) hB.b_range (pa_cons (pv 2) pa_nil)) (blkOk_by (own := [("_law_a", 7)]) (by first | rfl | decide +kernel)) (fun _ _ _ _ _ => (pg_name (i := 7) sc__law_span.nd rfl (by first | exact Or.inl rfl | exact Or.inr rfl))) (fun _ _ _ _ _ => pts_nil) (fun _ _ _ _ _ => (pe_callD D__law_sum (hr.mono (by decide)) (by rfl) (pa_cons (pv 6) (pa_cons (pe_callD D__law_scaled (hr.mono (by decide)) (by rfl) (pa_cons (pv 4) (pa_cons (pv 7) (pa_cons (pv 2) pa_nil)))) (pa_cons (pv 2) pa_nil))))))))))
            (pss_one (ps_set (i := 3) sc__law_span.nd rfl (by first | exact Or.inl rfl | exact Or.inr rfl) (pe_callTy (call_listK K) (by rfl) hB.b_list (by decide +kernel) (pa_cons (pv 5) pa_nil)))))) pss_nil)))
            (pss_one (ps_ret (pe_callB (cr_sortedK K (Room.units65 hr)) (by rfl) hB.b_sorted (by decide +kernel) (pa_cons (pv 3) pa_nil))))))), ?_⟩
    refine inP hv lv [.dat x, .dat (.int (n : Int)), .dat (.int p), .any, .any, .any, .any, .any] ?_
    refine rs_asg (d := .lst (rws [zer n])) (ev_lst (el_lst (ea_one (ev_call (ea_one (ev_var rfl)) ⟨n, rfl, hn, rfl⟩)))) ?_
    refine rs_for (ei_seq (ev_var rfl) hx) (fun i => [.dat x, .dat (.int (n : Int)), .dat (.int p), .dat (.lst (rws (spanL p n (rows.take i)))), .any, .any, .any, .any]) ?_ (fun i d h B G w => ?_) ?_
    · walk_at "ks"
    · rw [List.getElem?_map] at h
      have hi : i < rows.length := by
        refine Nat.lt_of_not_le fun z => ?_
        rw [List.getElem?_eq_none z] at h
        cases h
      rw [List.getElem?_eq_getElem hi] at h
      cases h
      have hr := hR _ (List.getElem_mem hi)
      have hF := spanL_len' (n := n) hp0 hz i
      have hV : Vcs p n (spanL p n (rows.take i)) := spanL_vc hp0 fun r h => (hR r (List.mem_of_mem_take h)).1
      have es : spanL p n (rows.take (i + 1)) = spStep p (spanL p n (rows.take i)) rows[i] := by
        rw [List.take_add_one, List.getElem?_eq_getElem hi, Option.toList_some, spanL_snoc]
      generalize spanL p n (rows.take i) = fd0 at hF hV es
      generalize rows[i] = row at hr es
      refine ⟨_, gb_name, ?_⟩
      refine run_if (b := !decide (row ∈ fd0)) (et_test (Ev.to (ev_op (ev_var rfl) (ev_var rfl) (niv_dat (rw_ok _) (rws_okL _))) (by rw [any_rws]))) (fun c => ?_) fun c => ?_
      · have c' : row ∉ fd0 := by simpa using c
        refine rs_asg (d := .lst (rws [])) (ev_lst (el_lst ea_nil)) ?_
        refine rs_for (ei_seqL (ev_var rfl)) (fun k => [.dat x, .dat (.int (n : Int)), .dat (.int p), .dat (.lst (rws fd0)), .dat (rw row), .dat (.lst (rws (lgr p row (fd0.take k)))), .any, .any]) ?_ (fun k d h B2 G2 w2 => ?_) ?_
        · walk_at "ks"
        · rw [List.getElem?_map] at h
          have hk : k < fd0.length := by
            refine Nat.lt_of_not_le fun z => ?_
            rw [List.getElem?_eq_none z] at h
            cases h
          rw [List.getElem?_eq_getElem hk] at h
          cases h
          have hw := hV _ (List.getElem_mem hk)
          have e2 : fd0.take (k + 1) = fd0.take k ++ [fd0[k]] := by rw [List.take_add_one, List.getElem?_eq_getElem hk, Option.toList_some]
          have hb : (fd0.take k).length * p.toNat ≤ 100000 * 7 := Nat.mul_le_mul (by rw [List.length_take]; omega) (by omega)
          generalize fd0[k] = wd at hw e2
          refine ⟨_, gb_name, ?_⟩
          refine run_asg (d := .lst (rws (lgr p row (fd0.take k)) ++ (List.range p.toNat).map fun (a : Nat) => rw (mAdd p wd (mScl p (0 + (a : Int)) row)))) (ev_lst (ev_opL (ev_var rfl) (ev_lst (el_map (xs := List.range p.toNat) (enc := fun k => .int (0 + (k : Nat))) (f := fun (a : Nat) => rw (mAdd p wd (mScl p (0 + (a : Int)) row))) (ei_rng1 (ea_one (ev_var rfl)) (by omega)) (sz (by rw [List.length_range]; omega)) fun a ha => ⟨_, gw_name, ?a⟩)) (av_lst (sz (by rw [List.length_map, lgr_len, List.length_map, List.length_range]; omega))))) (cont_nx1 ?b)
          case a =>
            have ha' := List.mem_range.mp ha
            exact ev_call (ea_cons (ev_var rfl) (ea_cons (ev_call (ea_cons (ev_var rfl) (ea_cons (ev_var rfl) (ea_one (ev_var rfl)))) ⟨_, _, _, rfl, hp0, by omega, by omega, by rw [hr.1]; exact hn, rfl⟩) (ea_one (ev_var rfl)))) ⟨_, _, _, rfl, hp0, by unfold mScl; rw [List.length_map, hw.1, hr.1], by rw [hw.1]; exact hn, rfl⟩
          case b =>
            rw [e2, lgr_snoc]
            refine ksle_cons (KLe.refl _) (ksle_cons (KLe.refl _) (ksle_cons (KLe.refl _) (ksle_cons (KLe.refl _) (ksle_cons (KLe.refl _) (ksle_cons ?_ ?_)))))
            · show D.lst _ = D.lst _
              simp [rws]
            · walk_at "ks"
        · refine run_asg (ev_lst (el_cb (ea_one (ev_var rfl)) cavl_lstL)) (cont_nx1 ?_)
          rw [es, List.length_map, List.take_length]
          unfold spStep
          rw [if_neg c']
          walk_at "ks"
      · have c' : row ∈ fd0 := by simpa using c
        refine cont_nx1 ?_
        rw [es]
        unfold spStep
        rw [if_pos c']
        walk_at "ks"
    · rw [List.length_map, List.take_length]
      exact run_retL q (Same.refl _) rfl rfl (el_cb (ea_one (ev_var rfl)) (cavl_sorted (span_sorts hp0 hR))) fun d e => e
/-! ### _law_in_form -/
def S__law_in_form : List D → (D → Prop) → Prop := fun ds T => ∃ (l : List (List Int)) (n : Nat), ds = [.tup (rws l), .int (n : Int)] ∧ InForm n l ∧ l.length ≤ 1000 ∧ n ≤ 1000 ∧ T = fun d => d = .bl true
abbrev spec__law_in_form (K : PySem.W.Frag) : Sp := spP S__law_in_form K
theorem ok__law_in_form {P : Program} {w : World} {K : PySem.W.Frag} {mg : Str → Option Value} {base : Heap} {f : Addr} {fd : FuncData} (hB : Bl mg) (F : Fun K "_law_in_form" "_law_in_form" s__law_in_form f fd) : FnOk P w K mg base (L2.CX P w) 1 f fd ["_law_told", "_law_n"] (spec__law_in_form K) := by
  refine F.okX sc__law_in_form (fun vs H Q E h => ?_) (fun cdv A outer s H vs Q E hr h => ?_)
  · obtain ⟨M, ds, T, hv, lv, hS, q⟩ := h
    rw [hv.length]
    first | (obtain ⟨rfl, _⟩ := hS; rfl) | (obtain ⟨_, rfl, _⟩ := hS; rfl) | (obtain ⟨_, _, rfl, _⟩ := hS; rfl) | (obtain ⟨_, _, _, rfl, _⟩ := hS; rfl) | (obtain ⟨_, _, _, _, rfl, _⟩ := hS; rfl) | (obtain ⟨_, _, _, _, _, rfl, _⟩ := hS; rfl) | (obtain ⟨_, _, _, _, _, _, rfl, _⟩ := hS; rfl) | (obtain ⟨_, _, _, _, _, _, _, rfl, _⟩ := hS; rfl) | (obtain ⟨_, _, _, _, _, _, _, _, rfl, _⟩ := hS; rfl)
  · skip
    obtain ⟨M, ds, T, hv, lv, ⟨l, n, rfl, hF, hl, hn, rfl⟩, q⟩ := h
    refine ⟨_, PSs.nox ((pss_cons (ps_set (i := 2) sc__law_in_form.nd rfl (by first | exact Or.inl rfl | exact Or.inr rfl) (pe_un un_neg pe_int))
            (pss_cons (ps_if (pt_not (pt_val (pe_callB (call_isiK' K) (by rfl) hB.b_isinstance (by decide +kernel) (pa_cons (pv 0) (pa_cons (pe_bltn (v := .ty "tuple") (by rfl) hB.b_tuple (by decide +kernel) rfl) pa_nil))))) (pss_one (ps_ret pe_bl)) pss_nil)
            (pss_cons (ps_for PassesOwn.never rfl (pi_range1 (by rfl) hB.b_range (pa_cons (pe_callB (call_lenK K) (by rfl) hB.b_len PySem.boot_len (pa_cons (pv 0) pa_nil)) pa_nil)) (pg_name (i := 3) sc__law_in_form.nd rfl (by first | exact Or.inl rfl | exact Or.inr rfl)) (pss_cons (ps_if (PW.pt (pw_or (pt_not (pt_val (pe_callB (call_isiK' K) (by rfl) hB.b_isinstance (by decide +kernel) (pa_cons (pe_ixK K (pv 0) (pv 3) (fun _ _ => rfl)) (pa_cons (pe_bltn (v := .ty "tuple") (by rfl) hB.b_tuple (by decide +kernel) rfl) pa_nil))))) (pw_or1 (pt_cmpR (op_neK K hr.units) (pe_callB (call_lenK K) (by rfl) hB.b_len PySem.boot_len (pa_cons (pe_ixK K (pv 0) (pv 3) (fun _ _ => rfl)) pa_nil)) (pv 1) (nomark _))))) (pss_one (ps_ret pe_bl)) pss_nil)
            (pss_cons (ps_setLc (i := 4) (own := [("_law_j", 6)]) (g := gName 6) rfl sc__law_in_form.nd rfl rfl (sw_true rfl rfl rfl (by decide +kernel)) (pi_range1 (by rfl) hB.b_range (pa_cons (pv 1) pa_nil)) (blkOk_by (own := [("_law_j", 6)]) (by first | rfl | decide +kernel)) (fun _ _ _ _ _ => (pg_name (i := 6) sc__law_in_form.nd rfl (by first | exact Or.inl rfl | exact Or.inr rfl))) (fun _ _ _ _ _ => pts_one (pt_cmpR (op_neK K hr.units) (pe_ixK K (pe_ixK K (pv 0) (pv 3) (fun _ _ => rfl)) (pv 6) (fun _ _ => rfl)) pe_int (nomark _))) (fun _ _ _ _ _ => (pv 6)))
            (pss_cons (ps_if (PW.pt (pw_or (pt_cmpR (op_eqK K hr.units) (pe_callB (call_lenK K) (by rfl) hB.b_len PySem.boot_len (pa_cons (pv 4) pa_nil)) pe_int (nomark _)) (pw_or (pt_cmpR op_le (pe_ixK K (pv 4) pe_int (fun _ _ => rfl)) (pv 2) (nomark _)) (pw_or1 (pt_cmpR (op_neK K hr.units) (pe_ixK K (pe_ixK K (pv 0) (pv 3) (fun _ _ => rfl)) (pe_ixK K (pv 4) pe_int (fun _ _ => rfl)) (fun _ _ => rfl)) pe_int (nomark _)))))) (pss_one (ps_ret pe_bl)) pss_nil)
            (pss_cons (ps_set (i := 2) sc__law_in_form.nd rfl (by first | exact Or.inl rfl | exact Or.inr rfl) (pe_ixK K (pv 4) pe_int (fun _ _ => rfl)))
            (pss_one (ps_for PassesOwn.never rfl (pi_range1 (by rfl) hB.b_range (pa_cons (pe_callB (call_lenK K) (by rfl) hB.b_len PySem.boot_len (pa_cons (pv 0) pa_nil)) pa_nil)) (pg_name (i := 5) sc__law_in_form.nd rfl (by first | exact Or.inl rfl | exact Or.inr rfl)) (pss_one (ps_if (PW.pt (pw_and (pt_cmpR (op_neK K hr.units) (pv 5) (pv 3) (nomark _)) (pw_and1 (pt_cmpR (op_neK K hr.units) (pe_ixK K (pe_ixK K (pv 0) (pv 5) (fun _ _ => rfl)) (pv 2) (fun _ _ => rfl)) pe_int (nomark _))))) (pss_one (ps_ret pe_bl)) pss_nil)))))))))
            (pss_one (ps_ret pe_bl)))))), ?_⟩
    refine inP hv lv [.dat (.tup (rws l)), .dat (.int (n : Int)), .any, .any, .any, .any, .any] ?_
    refine rs_asg (ev_un ev_int unv_I) ?_
    refine rs_if (et_not (et_test (ev_cb (ea_cons (ev_var rfl) (ea_one ev_raw)) (cav_isi rfl rfl)))) (fun c => absurd c (by decide)) fun _ => ?_
    refine rs_for (ei_rng1 (ea_one (ev_cb (ea_one (ev_var rfl)) cav_lenT)) (by rw [List.length_map]; omega)) (fun i => [.dat (.tup (rws l)), .dat (.int (n : Int)), .dat (.int (lastP l i)), .any, .any, .any, .any]) ?_ (fun i d h B G w => ?_) ?_
    · walk_at "ks"
    · obtain ⟨hi, rfl⟩ := ups_get h
      rw [List.length_map, Int.toNat_natCast] at hi
      rw [Int.zero_add]
      have h1 := hF.len i hi
      have h2 := hF.ne i hi
      have h3 := hF.one i hi
      have h4 := hF.last hi
      have h5 := nz_mem (mPv_mem h2)
      have hx : ∀ k, k < l.length → atI (rws l) (k : Int) = some (rw (l.getD k [])) := fun k hk => at_getD [] hk
      refine ⟨_, gb_name, ?_⟩
      refine rs_if (et_or (et_not (et_test (ev_cb (ea_cons (ev_ixT (ev_var rfl) (ev_var rfl) (hx i hi)) (ea_one ev_raw)) (cav_isi rfl rfl)))) fun _ => et_test (ev_op (ev_cb (ea_one (ev_ixT (ev_var rfl) (ev_var rfl) (hx i hi))) cav_lenT) (ev_var rfl) nv_int)) (fun c => ?_) fun _ => ?_
      · rw [List.length_map, h1] at c
        simp at c
      refine rs_asgL (el_filt (xs := List.range n) (enc := fun k => .int (0 + (k : Nat))) (b := fun k => !decide ((l.getD i []).getD k 0 = 0)) (f := fun k => .int (k : Int)) (ei_rng1 (n := (n : Nat)) (ea_one (ev_var rfl)) (by omega)) (sz (by rw [List.length_range]; omega)) fun k hk => ⟨_, gw_name, ?_, fun _ => (ev_var rfl).to (by rw [Int.zero_add])⟩) ?_
      · have hk' := List.mem_range.mp hk
        exact et_test (ev_op (ev_ixT (i := 0 + (k : Int)) (ev_ixT (ev_var rfl) (ev_var rfl) (hx i hi)) (ev_var rfl) (by rw [Int.zero_add]; exact at_getD 0 (by rw [h1]; exact hk'))) ev_int nv_int)
      refine rs_weak (ks' := [.dat (.tup (rws l)), .dat (.int (n : Int)), .dat (.int (lastP l i)), .dat (.int (i : Int)), .own (fun z => z = (nz (l.getD i [])).map fun (k : Nat) => D.int (k : Int)), .any, .any]) ?_ ?_
      rotate_left
      · refine ksle_cons (KLe.refl _) (ksle_cons (KLe.refl _) (ksle_cons (KLe.refl _) (ksle_cons (KLe.refl _) (ksle_cons ?_ ?_))))
        · intro z e
          rw [show z = _ from e]
          unfold nz
          rw [h1]
        · walk_at "ks"
      have hh : ∀ ds : List D, ds = ((nz (l.getD i [])).map fun (k : Nat) => D.int (k : Int)) → ∃ d, atI ds 0 = some d ∧ d = D.int (mPv (l.getD i []) : Int) := by
        intro ds e
        rw [e]
        cases e2 : nz (l.getD i []) with
        | nil => exact absurd e2 h2
        | cons a t => exact ⟨_, atI_nat (j := 0) rfl, by unfold mPv; rw [e2]; rfl⟩
      refine rs_if (b := false) (EvT.to (et_or (et_test (ev_op (ev_lenO (R := fun d => d = .int ((nz (l.getD i [])).length : Nat)) rfl rfl fun ds e => by rw [show ds = _ from e, List.length_map]) ev_int qv_int)) fun _ => et_or (et_test (ev_op (ev_ixM (j := 0) rfl rfl ev_int fun ds e => hh ds e) (ev_var rfl) opv_B0)) fun _ => et_test (ev_op (ev_ixT (ev_ixT (ev_var rfl) (ev_var rfl) (hx i hi)) (ev_ixM (j := 0) rfl rfl ev_int fun ds e => hh ds e) (at_getD 0 h5.1)) ev_int nv_int)) ?_) (fun c => absurd c (by decide)) fun _ => ?_
      · rw [h3]
        simp [-List.getD_eq_getElem?_getD, h2, h4]
      refine rs_asg (ev_ixM (j := 0) rfl rfl ev_int fun ds e => hh ds e) ?_
      refine rs_weak (ks' := [.dat (.tup (rws l)), .dat (.int (n : Int)), .dat (.int (mPv (l.getD i []) : Int)), .dat (.int (i : Int)), .any, .any, .any]) ?_ (by walk_at "ks")
      refine run_for (ei_rng1 (ea_one (ev_cb (ea_one (ev_var rfl)) cav_lenT)) (by rw [List.length_map]; omega)) (fun k => [.dat (.tup (rws l)), .dat (.int (n : Int)), .dat (.int (mPv (l.getD i []) : Int)), .dat (.int (i : Int)), .any, .any, .any]) (KsLe.rfl' _) (fun k d h B2 G2 w2 => ?_) ?_
      · obtain ⟨hk, rfl⟩ := ups_get h
        rw [List.length_map, Int.toNat_natCast] at hk
        rw [Int.zero_add]
        refine ⟨_, gb_name, ?_⟩
        have h6 := hF.len k hk
        refine run_if (b := false) (EvT.to (et_and (et_test (ev_op (ev_var rfl) (ev_var rfl) nv_int)) fun _ => et_test (ev_op (ev_ixT (ev_ixT (ev_var rfl) (ev_var rfl) (hx k hk)) (ev_var rfl) (at_getD 0 (by rw [h6, ← h1]; exact h5.1))) ev_int nv_int)) ?_) (fun c => absurd c (by decide)) fun _ => cont_nx1 (by walk_at "ks")
        by_cases e : k = i
        · subst e
          simp
        · rw [hF.off i k hi hk e]
          simp
      · refine cont_nx1 ?_
        show KsLe _ [_, _, .dat (.int (mPv (l.getD i []) : Int)), _, _, _, _]
        walk_at "ks"
    · exact run_retP q (Same.refl _) rfl rfl ev_bl fun d e => e
/-! ### _law_shows -/
def S__law_shows : List D → (D → Prop) → Prop := fun ds T => ∃ (l : List (List Int)) (n : Nat) (p : Int), ds = [.tup (rws l), .lst (rws (mSpan p n l)), .int (n : Int), .int p] ∧ InForm n l ∧ PR p ∧ Vcs p n l ∧ p.toNat ^ l.length ≤ 100000 ∧ l.length ≤ 1000 ∧ n ≤ 1000 ∧ T = fun d => d = .bl true
abbrev spec__law_shows (K : PySem.W.Frag) : Sp := spP S__law_shows K
theorem ok__law_shows {P : Program} {w : World} {K : PySem.W.Frag} {mg : Str → Option Value} {base : Heap} {f : Addr} {fd : FuncData} (hB : Bl mg) (D__law_in_form : Df P w K mg base "_law_in_form" 1 ["_law_told", "_law_n"] (spec__law_in_form K)) (D__law_span : Df P w K mg base "_law_span" 2 ["_law_rows_here", "_law_n", "_law_p"] (spec__law_span K)) (F : Fun K "_law_shows" "_law_shows" s__law_shows f fd) : FnOk P w K mg base (L2.CX P w) 3 f fd ["_law_told", "_law_words", "_law_n", "_law_p"] (spec__law_shows K) := by
  refine F.okX sc__law_shows (fun vs H Q E h => ?_) (fun cdv A outer s H vs Q E hr h => ?_)
  · obtain ⟨M, ds, T, hv, lv, hS, q⟩ := h
    rw [hv.length]
    first | (obtain ⟨rfl, _⟩ := hS; rfl) | (obtain ⟨_, rfl, _⟩ := hS; rfl) | (obtain ⟨_, _, rfl, _⟩ := hS; rfl) | (obtain ⟨_, _, _, rfl, _⟩ := hS; rfl) | (obtain ⟨_, _, _, _, rfl, _⟩ := hS; rfl) | (obtain ⟨_, _, _, _, _, rfl, _⟩ := hS; rfl) | (obtain ⟨_, _, _, _, _, _, rfl, _⟩ := hS; rfl) | (obtain ⟨_, _, _, _, _, _, _, rfl, _⟩ := hS; rfl) | (obtain ⟨_, _, _, _, _, _, _, _, rfl, _⟩ := hS; rfl)
  · skip
    obtain ⟨M, ds, T, hv, lv, ⟨l, n, p, rfl, hF, hp, hV, hz, hl, hn, rfl⟩, q⟩ := h
    refine ⟨_, PSs.nox ((pss_one (ps_ret (pe_and (pe_callD D__law_in_form (hr.mono (by decide)) (by rfl) (pa_cons (pv 0) (pa_cons (pv 2) pa_nil))) (pe_one (pe_cmpR (op_eqK K hr.units) (pe_callD D__law_span (hr.mono (by decide)) (by rfl) (pa_cons (pv 0) (pa_cons (pv 2) (pa_cons (pv 3) pa_nil)))) (pv 1) (nomark _))))))), ?_⟩
    refine inP hv lv [.dat (.tup (rws l)), .dat (.lst (rws (mSpan p n l))), .dat (.int (n : Int)), .dat (.int p)] ?_
    exact run_retP q (Same.refl _) rfl rfl (ev_and (ev_call (ea_cons (ev_var rfl) (ea_one (ev_var rfl))) ⟨l, n, rfl, hF, hl, hn, rfl⟩) (fun _ => Ev.to (ev_op (ev_lst (el_call (ea_cons (ev_var rfl) (ea_cons (ev_var rfl) (ea_one (ev_var rfl)))) ⟨_, l, n, p, rfl, .inr rfl, hp, hV, hz, hn, rfl⟩)) (ev_var rfl) (qv_dat (rws_okL _) (rws_okL _))) (by rw [eqv_rfl (okD_pl (rws_okL _))])) (fun e => absurd e (by decide))) fun d e => e
/-! ### _law_prime -/
def S__law_prime : List D → (D → Prop) → Prop := fun ds T => ds = [] ∧ T = fun d => ∃ p : Int, PR p ∧ d = .int p
abbrev spec__law_prime (K : PySem.W.Frag) : Sp := spS stOk S__law_prime K
theorem ok__law_prime {P : Program} {w : World} {K : PySem.W.Frag} {mg : Str → Option Value} {base : Heap} {f : Addr} {fd : FuncData} (hB : Bl mg) (D__law_take : Df P w K mg base "_law_take" 1 ["_law_state_here", "_law_m"] (spec__law_take K)) (F : Fun K "_law_prime" "_law_prime" s__law_prime f fd) : FnOk P w K mg base (L2.CX P w) 2 f fd ["_law_state_here"] (spec__law_prime K) := by
  refine F.okX sc__law_prime (fun vs H Q E h => ?_) (fun cdv A outer s H vs Q E hr h => ?_)
  · obtain ⟨M, a, us, vs0, ds0, ds, T, rfl, _, _, _, _, hv, lv, hS, q⟩ := h
    rw [List.length_cons, hv.length]
    first | (obtain ⟨rfl, _⟩ := hS; rfl) | (obtain ⟨_, rfl, _⟩ := hS; rfl) | (obtain ⟨_, _, rfl, _⟩ := hS; rfl) | (obtain ⟨_, _, _, rfl, _⟩ := hS; rfl) | (obtain ⟨_, _, _, _, rfl, _⟩ := hS; rfl) | (obtain ⟨_, _, _, _, _, rfl, _⟩ := hS; rfl) | (obtain ⟨_, _, _, _, _, _, rfl, _⟩ := hS; rfl) | (obtain ⟨_, _, _, _, _, _, _, rfl, _⟩ := hS; rfl) | (obtain ⟨_, _, _, _, _, _, _, _, rfl, _⟩ := hS; rfl)
  · skip
    obtain ⟨M, a, us, vs0, ds0, ds, T, rfl, ha, hl0, h0, hφ, hv, lv, ⟨rfl, rfl⟩, q⟩ := h
    refine ⟨_, PSs.nox ((pss_one (ps_ret (pe_ixK K (pe_lst (pa_cons pe_int (pa_cons pe_int (pa_cons pe_int (pa_cons pe_int (pa_cons pe_int (pa_cons pe_int pa_nil))))))) (pe_callD D__law_take (hr.mono (by decide)) (by rfl) (pa_cons (pv 0) (pa_cons pe_int pa_nil))) (fun _ _ => rfl))))), ?_⟩
    refine inS ha hl0 h0 hφ hv lv [.bor stOk] ?_
    refine run_retS q (Same.refl _) lv rfl rfl (i := 0) rfl (ev_opR (R := fun d => ∃ p : Int, PR p ∧ d = .int p) (ev_lst (el_lst (ea_cons ev_int (ea_cons ev_int (ea_cons ev_int (ea_cons ev_int (ea_cons ev_int (ea_one ev_int)))))))) (ev_callS (i := 0) rfl rfl rfl (ea_one ev_int) ⟨6, rfl, by decide, by decide, rfl⟩) fun x y ex ey => ?_) fun d e => e
    obtain ⟨r, h1, h2, rfl⟩ := ey
    subst ex
    have : r = ((0 : Nat) : Int) ∨ r = ((1 : Nat) : Int) ∨ r = ((2 : Nat) : Int) ∨ r = ((3 : Nat) : Int) ∨ r = ((4 : Nat) : Int) ∨ r = ((5 : Nat) : Int) := by omega
    rcases this with e | e | e | e | e | e <;> subst e
    · exact (opv_ix (.inl rfl) (atI_nat rfl)).imp fun d e => ⟨2, .inl rfl, e⟩
    · exact (opv_ix (.inl rfl) (atI_nat rfl)).imp fun d e => ⟨2, .inl rfl, e⟩
    · exact (opv_ix (.inl rfl) (atI_nat rfl)).imp fun d e => ⟨3, .inr (.inl rfl), e⟩
    · exact (opv_ix (.inl rfl) (atI_nat rfl)).imp fun d e => ⟨3, .inr (.inl rfl), e⟩
    · exact (opv_ix (.inl rfl) (atI_nat rfl)).imp fun d e => ⟨5, .inr (.inr (.inl rfl)), e⟩
    · exact (opv_ix (.inl rfl) (atI_nat rfl)).imp fun d e => ⟨7, .inr (.inr (.inr rfl)), e⟩
/-! ### _law_rows -/
def S__law_rows : List D → (List D → Prop) → Prop := fun ds T => ∃ (p : Int) (n m : Nat), ds = [.int p, .int (n : Int), .int (m : Int)] ∧ 0 < p ∧ p < 2 ^ 30 ∧ n ≤ 1000 ∧ m ≤ 1000 ∧ T = fun es => ∃ l, es = rws l ∧ Vcs p n l ∧ l.length ≤ m
abbrev spec__law_rows (K : PySem.W.Frag) : Sp := spSL stOk S__law_rows K
theorem ok__law_rows {P : Program} {w : World} {K : PySem.W.Frag} {mg : Str → Option Value} {base : Heap} {f : Addr} {fd : FuncData} (hB : Bl mg) (D__law_take : Df P w K mg base "_law_take" 1 ["_law_state_here", "_law_m"] (spec__law_take K)) (D__law_element : Df P w K mg base "_law_element" 2 ["_law_state_here", "_law_p", "_law_n"] (spec__law_element K)) (F : Fun K "_law_rows" "_law_rows" s__law_rows f fd) : FnOk P w K mg base (L2.CX P w) 3 f fd ["_law_state_here", "_law_p", "_law_n", "_law_most"] (spec__law_rows K) := by
  refine F.okX sc__law_rows (fun vs H Q E h => ?_) (fun cdv A outer s H vs Q E hr h => ?_)
  · obtain ⟨M, a, us, vs0, ds0, ds, T, rfl, _, _, _, _, hv, lv, hS, q⟩ := h
    rw [List.length_cons, hv.length]
    first | (obtain ⟨rfl, _⟩ := hS; rfl) | (obtain ⟨_, rfl, _⟩ := hS; rfl) | (obtain ⟨_, _, rfl, _⟩ := hS; rfl) | (obtain ⟨_, _, _, rfl, _⟩ := hS; rfl) | (obtain ⟨_, _, _, _, rfl, _⟩ := hS; rfl) | (obtain ⟨_, _, _, _, _, rfl, _⟩ := hS; rfl) | (obtain ⟨_, _, _, _, _, _, rfl, _⟩ := hS; rfl) | (obtain ⟨_, _, _, _, _, _, _, rfl, _⟩ := hS; rfl) | (obtain ⟨_, _, _, _, _, _, _, _, rfl, _⟩ := hS; rfl)
  · skip
    obtain ⟨M, a, us, vs0, ds0, ds, T, rfl, ha, hl0, h0, hφ, hv, lv, ⟨p, n, m, rfl, hp, hp2, hn, hm, rfl⟩, q⟩ := h
    refine ⟨_, PSs.nox ((pss_one (ps_ret (pe_lc (own := [("_law_k", 4)]) (g := gName 4) (tt := tYes) rfl sc__law_rows.nd (pi_range1 (by rfl) hB.b_range (pa_cons (pe_callD D__law_take (hr.mono (by decide)) (by rfl) (pa_cons (pv 0) (pa_cons (pe_addK K (pv 3) pe_int) pa_nil))) pa_nil)) (blkOk_by (own := [("_law_k", 4)]) (by first | rfl | decide +kernel)) (fun _ _ _ _ _ => (pg_name (i := 4) sc__law_rows.nd rfl (by first | exact Or.inl rfl | exact Or.inr rfl))) (fun _ _ _ _ _ => pts_nil) (fun _ _ _ _ _ => (pe_callD D__law_element (hr.mono (by decide)) (by rfl) (pa_cons (pv 0) (pa_cons (pv 1) (pa_cons (pv 2) pa_nil))))))))), ?_⟩
    refine inS ha hl0 h0 hφ hv lv [.bor stOk, .dat (.int p), .dat (.int (n : Int)), .dat (.int (m : Int)), .any] ?_
    refine run_retSL q (Same.refl _) lv rfl rfl (i := 0) rfl (el_lcR (RI := fun items => ∃ r : Nat, r ≤ m ∧ items = ups 0 r) ?a (fun items i acc => ∃ l, acc = rws l ∧ Vcs p n l ∧ l.length = i ∧ i ≤ items.length) (fun items _ => ⟨[], rfl, fun v hv => absurd hv (by simp), rfl, Nat.zero_le _⟩) fun items i d hr hd => ⟨_, gw_name, _, et_yes, fun e => absurd e (by decide), fun _ => ⟨_, ev_callS (i := 0) rfl rfl rfl (ea_cons (ev_var rfl) (ea_one (ev_var rfl))) ⟨p, n, rfl, hp, hp2, hn, rfl⟩, ?b⟩⟩) fun d e => ?c
    case a =>
      refine ei_rng1R (EvAR.imp (ea_oneR (ev_callS (i := 0) rfl rfl rfl (ea_one (ev_op (ev_var rfl) ev_int av_int)) ⟨(m : Int) + 1, rfl, by omega, by omega, rfl⟩)) fun ds e => ?_)
      obtain ⟨d, ⟨r, h1, h2, rfl⟩, rfl⟩ := e
      exact ⟨r, rfl, by omega, by omega, r.toNat, by omega, rfl⟩
    case b =>
      obtain ⟨r, hr1, rfl⟩ := hr
      obtain ⟨hi, rfl⟩ := ups_get hd
      rintro acc e ⟨l, rfl, hl, hl2, _⟩ ⟨v, hv, rfl⟩
      refine ⟨szl (by rw [List.length_map]; omega), l ++ [v], by simp [rws], fun x hx => ?_, by simp [hl2], by rw [ups_length]; omega⟩
      rcases List.mem_append.mp hx with h | h
      · exact hl x h
      · rw [List.mem_singleton.mp h]; exact hv
    case c =>
      obtain ⟨items, ⟨r, hr1, rfl⟩, l, rfl, hl, hl2, _⟩ := e
      exact ⟨l, rfl, hl, by rw [hl2, ups_length]; exact hr1⟩
/-! ### law -/
def S_law : List D → (D → Prop) → Prop := fun ds T => ∃ ns : List Int, ds = [.sls (ns.map D.int)] ∧ T = fun d => d = .bl true
abbrev spec_law (K : PySem.W.Frag) : Sp := spP S_law K
theorem cut_vcs {p : Int} {n : Nat} {l : List (List Int)} {a b : Option Int} (h : Vcs p n l) : Vcs p n (cutG l a b) := fun v hv => h v (List.mem_of_mem_drop (List.mem_of_mem_take hv))
theorem cutG_map {α β : Type} (f : α → β) (l : List α) (a b : Option Int) : cutG (l.map f) a b = (cutG l a b).map f := by
  unfold cutG
  rw [List.length_map, ← List.map_drop, ← List.map_take]
theorem cut_len1 {α : Type} (l : List α) : (cutG l none (some 1)).length ≤ 1 := by
  unfold cutG
  rw [List.length_take]
  exact Nat.le_trans (Nat.min_le_left _ _) (Nat.le_trans (Nat.sub_le _ _) (Nat.min_le_left _ _))
theorem ker_redK {p : Int} {n : Nat} (hP : PR p) {X : List (List Int)} (h : Vcs p n X) : mRed p n (mKer p n X) = mKer p n X := form_uni hP (red_form hP (ker_vcs hP h)).1 (ker_form hP h) (red_vcs hP (ker_vcs hP h)) (ker_vcs hP h) (red_in hP (ker_vcs hP h))
theorem red_nK {p : Int} {n : Nat} (hP : PR p) {X : List (List Int)} (h : Vcs p n X) : (mRed p n X).length ≤ n := by have := ker_len hP h; omega
theorem ok_law {P : Program} {w : World} {K : PySem.W.Frag} {mg : Str → Option Value} {base : Heap} {f : Addr} {fd : FuncData} (hB : Bl mg) (D_members : DfT P w K mg base "members" 2 ["space", "width", "p"] (spec_members K)) (D_sum_of : Df P w K mg base "sum_of" 4 ["a", "b", "width", "p"] (spec_sum_of K)) (D_common_part : Df P w K mg base "common_part" 5 ["a", "b", "width", "p"] (spec_common_part K)) (D__law_shows : Df P w K mg base "_law_shows" 3 ["_law_told", "_law_words", "_law_n", "_law_p"] (spec__law_shows K)) (D__law_span : Df P w K mg base "_law_span" 2 ["_law_rows_here", "_law_n", "_law_p"] (spec__law_span K)) (D_span : Df P w K mg base "span" 3 ["rows", "width", "p"] (spec_span K)) (D__law_take : Df P w K mg base "_law_take" 1 ["_law_state_here", "_law_m"] (spec__law_take K)) (D__law_rows : Df P w K mg base "_law_rows" 3 ["_law_state_here", "_law_p", "_law_n", "_law_most"] (spec__law_rows K)) (D__law_prime : Df P w K mg base "_law_prime" 2 ["_law_state_here"] (spec__law_prime K)) (D__law_state : Df P w K mg base "_law_state" 1 ["_law_script"] (spec__law_state K)) (F : Fun K "law" "law" s_law f fd) : FnOk P w K mg base (L2.CX P w) 6 f fd ["_law_script"] (spec_law K) := by
  refine F.okX sc_law (fun vs H Q E h => ?_) (fun cdv A outer s H vs Q E hr h => ?_)
  · obtain ⟨M, ds, T, hv, lv, hS, q⟩ := h
    rw [hv.length]
    first | (obtain ⟨rfl, _⟩ := hS; rfl) | (obtain ⟨_, rfl, _⟩ := hS; rfl) | (obtain ⟨_, _, rfl, _⟩ := hS; rfl) | (obtain ⟨_, _, _, rfl, _⟩ := hS; rfl) | (obtain ⟨_, _, _, _, rfl, _⟩ := hS; rfl) | (obtain ⟨_, _, _, _, _, rfl, _⟩ := hS; rfl) | (obtain ⟨_, _, _, _, _, _, rfl, _⟩ := hS; rfl) | (obtain ⟨_, _, _, _, _, _, _, rfl, _⟩ := hS; rfl) | (obtain ⟨_, _, _, _, _, _, _, _, rfl, _⟩ := hS; rfl)
  · skip
    obtain ⟨M, ds, T, hv, lv, ⟨ns, rfl, rfl⟩, q⟩ := h
    refine ⟨_, PSs.nox ((pss_cons (ps_set (i := 1) sc_law.nd rfl (by first | exact Or.inl rfl | exact Or.inr rfl) (pe_callD D__law_state (hr.mono (by decide)) (by rfl) (pa_cons (pv 0) pa_nil)))
            (pss_cons (ps_set (i := 2) sc_law.nd rfl (by first | exact Or.inl rfl | exact Or.inr rfl) (pe_callD D__law_prime (hr.mono (by decide)) (by rfl) (pa_cons (pv 1) pa_nil)))
            (pss_cons (ps_set (i := 3) sc_law.nd rfl (by first | exact Or.inl rfl | exact Or.inr rfl) (pe_callD D__law_take (hr.mono (by decide)) (by rfl) (pa_cons (pv 1) (pa_cons (pe_op op_sub pe_int (pe_callTy call_int1 (by rfl) hB.b_int (by decide +kernel) (pa_cons (pe_cmpR op_gt (pv 2) pe_int (nomark _)) pa_nil))) pa_nil))))
            (pss_cons (ps_set (i := 4) sc_law.nd rfl (by first | exact Or.inl rfl | exact Or.inr rfl) (pe_callD D__law_rows (hr.mono (by decide)) (by rfl) (pa_cons (pv 1) (pa_cons (pv 2) (pa_cons (pv 3) (pa_cons pe_int pa_nil))))))
            (pss_cons (ps_set (i := 5) sc_law.nd rfl (by first | exact Or.inl rfl | exact Or.inr rfl) (pe_callD D__law_rows (hr.mono (by decide)) (by rfl) (pa_cons (pv 1) (pa_cons (pv 2) (pa_cons (pv 3) (pa_cons pe_int pa_nil))))))
            (pss_cons (ps_if (pt_cmpR (op_eqK K hr.units) (pe_callD D__law_take (hr.mono (by decide)) (by rfl) (pa_cons (pv 1) (pa_cons pe_int pa_nil))) pe_int (nomark _)) (pss_one (ps_set (i := 5) sc_law.nd rfl (by first | exact Or.inl rfl | exact Or.inr rfl) (pe_addK K (pv 5) (pe_sliceK K (pv 4) po_none (po_some pe_int))))) pss_nil)
            (pss_cons (ps_set (i := 6) sc_law.nd rfl (by first | exact Or.inl rfl | exact Or.inr rfl) (pe_callD D__law_span (hr.mono (by decide)) (by rfl) (pa_cons (pv 4) (pa_cons (pv 3) (pa_cons (pv 2) pa_nil)))))
            (pss_cons (ps_set (i := 7) sc_law.nd rfl (by first | exact Or.inl rfl | exact Or.inr rfl) (pe_callD D__law_span (hr.mono (by decide)) (by rfl) (pa_cons (pv 5) (pa_cons (pv 3) (pa_cons (pv 2) pa_nil)))))
            (pss_cons (ps_set (i := 8) sc_law.nd rfl (by first | exact Or.inl rfl | exact Or.inr rfl) (pe_callD D_span (hr.mono (by decide)) (by rfl) (pa_cons (pv 4) (pa_cons (pv 3) (pa_cons (pv 2) pa_nil)))))
            (pss_cons (ps_set (i := 9) sc_law.nd rfl (by first | exact Or.inl rfl | exact Or.inr rfl) (pe_callD D_span (hr.mono (by decide)) (by rfl) (pa_cons (pv 5) (pa_cons (pv 3) (pa_cons (pv 2) pa_nil)))))
            (pss_cons (ps_set (i := 10) sc_law.nd rfl (by first | exact Or.inl rfl | exact Or.inr rfl) (pe_callD D_sum_of (hr.mono (by decide)) (by rfl) (pa_cons (pv 8) (pa_cons (pv 9) (pa_cons (pv 3) (pa_cons (pv 2) pa_nil))))))
            (pss_cons (ps_set (i := 11) sc_law.nd rfl (by first | exact Or.inl rfl | exact Or.inr rfl) (pe_callD D_common_part (hr.mono (by decide)) (by rfl) (pa_cons (pv 8) (pa_cons (pv 9) (pa_cons (pv 3) (pa_cons (pv 2) pa_nil))))))
            (pss_cons (ps_if (PW.pt (pw_or (pt_not (pt_val (pe_callD D__law_shows (hr.mono (by decide)) (by rfl) (pa_cons (pv 10) (pa_cons (pe_callD D__law_span (hr.mono (by decide)) (by rfl) (pa_cons (pe_addK K (pv 4) (pv 5)) (pa_cons (pv 3) (pa_cons (pv 2) pa_nil)))) (pa_cons (pv 3) (pa_cons (pv 2) pa_nil))))))) (pw_or1 (pt_not (pt_val (pe_callD D__law_shows (hr.mono (by decide)) (by rfl) (pa_cons (pv 11) (pa_cons (pe_lc (own := [("_law_v", 12)]) (g := gName 12) rfl sc_law.nd (pi_seqK K (pv 6)) (blkOk_by (own := [("_law_v", 12)]) (by first | rfl | decide +kernel)) (fun _ _ _ _ _ => (pg_name (i := 12) sc_law.nd rfl (by first | exact Or.inl rfl | exact Or.inr rfl))) (fun _ _ _ _ _ => pts_one (pt_cmpR (op_inK K (Room.units65 hr)) (pv 12) (pv 7) (by with_unfolding_all rfl))) (fun _ _ _ _ _ => (pv 12))) (pa_cons (pv 3) (pa_cons (pv 2) pa_nil)))))))))) (pss_one (ps_ret pe_bl)) pss_nil)
            (pss_cons (ps_if (PW.pt (pw_or (pt_cmpR (op_neK K hr.units) (pe_addK K (pe_callB (call_lenK K) (by rfl) hB.b_len PySem.boot_len (pa_cons (pv 10) pa_nil)) (pe_callB (call_lenK K) (by rfl) hB.b_len PySem.boot_len (pa_cons (pv 11) pa_nil))) (pe_addK K (pe_callB (call_lenK K) (by rfl) hB.b_len PySem.boot_len (pa_cons (pv 8) pa_nil)) (pe_callB (call_lenK K) (by rfl) hB.b_len PySem.boot_len (pa_cons (pv 9) pa_nil))) (nomark _)) (pw_or (pt_cmpR (op_neK K hr.units) (pe_callD D_sum_of (hr.mono (by decide)) (by rfl) (pa_cons (pv 9) (pa_cons (pv 8) (pa_cons (pv 3) (pa_cons (pv 2) pa_nil))))) (pv 10) (nomark _)) (pw_or1 (pt_cmpR (op_neK K hr.units) (pe_callD D_common_part (hr.mono (by decide)) (by rfl) (pa_cons (pv 9) (pa_cons (pv 8) (pa_cons (pv 3) (pa_cons (pv 2) pa_nil))))) (pv 11) (nomark _)))))) (pss_one (ps_ret pe_bl)) pss_nil)
            (pss_one (ps_ret (pe_and (pe_cmpR (op_eqK K hr.units) (pe_lcT (own := [("_law_v", 12)]) (g := gName 12) (tt := tYes) hr.hd (hr.mono (by decide)) sc_law.nd (pg_callD D_members (hr.mono (by decide)) (by rfl) (pa_cons (pv 8) (pa_cons (pv 3) (pa_cons (pv 2) pa_nil)))) (blkOk_by (own := [("_law_v", 12)]) (by first | rfl | decide +kernel)) (by decide +kernel) (fun _ _ _ _ _ => (pg_name (i := 12) sc_law.nd rfl (by first | exact Or.inl rfl | exact Or.inr rfl))) (fun _ _ _ _ _ => pts_nil) (fun _ _ _ _ _ => (pv 12))) (pv 6) (nomark _)) (pe_one (pe_cmpR (op_eqK K hr.units) (pe_listT (pg_callD D_members (hr.mono (by decide)) (by rfl) (pa_cons (pv 9) (pa_cons (pv 3) (pa_cons (pv 2) pa_nil)))) (hr.mono (by decide)) (by rfl) hB.b_list (by decide +kernel)) (pv 7) (nomark _))))))))))))))))))))), ?_⟩
    refine inP hv lv [.dat (.sls (ns.map D.int)), .any, .any, .any, .any, .any, .any, .any, .any, .any, .any, .any, .any] ?_
    refine rs_asgLR (el_call (ea_one (ev_var rfl)) ⟨ns, rfl, rfl⟩) ?_
    refine rs_asgR (ev_callS (i := 1) rfl rfl rfl ea_nil ⟨rfl, rfl⟩) fun d hd => ?_
    obtain ⟨p, hp, rfl⟩ := hd
    have hp0 := hp.pos
    have hp2 := hp.two
    have hp7 := hp.le
    refine rs_asgR (ev_callS (i := 1) rfl rfl rfl (ea_one (ev_op ev_int (ev_cb (ea_one (ev_op (ev_var rfl) ev_int opv_B0)) cav_intB) opv_I0)) ⟨_, rfl, by split <;> omega, by split <;> omega, rfl⟩) fun d hd => ?_
    obtain ⟨r, hr1, hr2, rfl⟩ := hd
    obtain ⟨n, rfl⟩ := Int.eq_ofNat_of_zero_le hr1
    have hn : n ≤ 4 := by
      split at hr2 <;> omega
    clear hr1 hr2
    have hz : ∀ m, m ≤ 5 → p.toNat ^ m ≤ 100000 := fun m hm => Nat.le_trans (Nat.le_trans (Nat.pow_le_pow_left (show p.toNat ≤ 7 by omega) m) (Nat.pow_le_pow_right (by decide) hm)) (by decide)
    refine rs_asgLR (el_callS (i := 1) rfl rfl rfl (ea_cons (ev_var rfl) (ea_cons (ev_var rfl) (ea_one ev_int))) ⟨p, n, 2, rfl, hp0, by omega, by omega, by decide, rfl⟩) ?_
    refine cont_open (i := 4) rfl rfl fun es hes => ?_
    obtain ⟨first, rfl, hA, lA⟩ := hes
    refine rs_freeze 4 (ds := rws first) rfl ?_
    refine rs_asgLR (el_callS (i := 1) rfl rfl rfl (ea_cons (ev_var rfl) (ea_cons (ev_var rfl) (ea_one ev_int))) ⟨p, n, 2, rfl, hp0, by omega, by omega, by decide, rfl⟩) ?_
    refine cont_open (i := 5) rfl rfl fun es hes => ?_
    obtain ⟨sec0, rfl, hB0, lB0⟩ := hes
    refine rs_freeze 5 (ds := rws sec0) rfl ?_
    refine rs_join (α := List (List Int)) (R := fun _ => True) (fun B => [.dat (.sls (ns.map D.int)), .own stOk, .dat (.int p), .dat (.int (n : Int)), .dat (.lst (rws first)), .dat (.lst (rws B)), .any, .any, .any, .any, .any, .any, .any]) (fun B => Vcs p n B ∧ B.length ≤ 3) (et_testR (ev_opR (ev_callS (i := 1) rfl rfl rfl (ea_one ev_int) ⟨3, rfl, by decide, by decide, rfl⟩) ev_int fun x y ex ey => by
      obtain ⟨r, _, _, rfl⟩ := ex
      subst ey
      exact qv_int.imp fun z e => ⟨_, trivial, e⟩)) ⟨sec0, ⟨hB0, by omega⟩, by walk_at "ks"⟩ (fun _ N hN => ?_) fun B hBB => ?_
    · refine run_asg (d := .lst (rws (sec0 ++ cutG first none (some 1)))) (ev_lst (EvL.to (ev_opL (ev_var rfl) (ev_lst (EvL.to (el_sl (ev_var rfl) eo_none (eo_some ev_int)) (cutG_map _ _ _ _))) (av_lst (sz ?z))) (by simp [rws]))) (hN _ ⟨vcs_app hB0 (cut_vcs hA), ?_⟩)
      case z =>
        have := cut_len1 first
        rw [List.length_map, List.length_map]
        omega
      · have := cut_len1 first
        rw [List.length_append]
        omega
    obtain ⟨hB, lB⟩ := hBB
    have rA := red_vcs hp hA
    have rB := red_vcs hp hB
    have fA := (red_form hp hA).1
    have fB := (red_form hp hB).1
    have nA := red_len hp hA
    have nB := red_len hp hB
    have iA := red_in hp hA
    have iB := red_in hp hB
    have rrA := red_red hp hA
    have rrB := red_red hp hB
    have spA : mSpan p n (mRed p n first) = mSpan p n first := mSpan_eq hp rA hA iA
    have spB : mSpan p n (mRed p n B) = mSpan p n B := mSpan_eq hp rB hB iB
    have lSp : ∀ {X : List (List Int)}, Vcs p n X → X.length ≤ 5 → (mSpan p n X).length ≤ 100000 := fun {X} hX hl => by
      have := spanL_len hp0 n X.length X
      rw [List.take_length] at this
      unfold mSpan
      rw [List.length_mergeSort]
      exact Nat.le_trans this (hz _ hl)
    have hAB := vcs_app hA hB
    have hW : Vcs p n (mRed p n first ++ mRed p n B) := vcs_app rA rB
    have eW : mSpan p n (first ++ B) = mSpan p n (mRed p n (mRed p n first ++ mRed p n B)) := mSpan_eq hp hAB (red_vcs hp hW) fun v => by
      rw [red_in hp hW]
      exact ⟨in_app hp hA hB hW (fun v h => in_left ((iA v).mpr h)) fun r h => in_right ((iB r).mpr (In.row hp0 hB hp.two h)), in_app hp rA rB hAB (fun v h => in_left ((iA v).mp h)) fun r h => in_right ((iB r).mp (In.row hp0 rB hp.two h))⟩
    have fW := (red_form hp hW).1
    have lW := red_nK hp hW
    have kAB := vcs_app (ker_vcs hp rA) (ker_vcs hp rB)
    have hP := ker_vcs hp kAB
    have fP := ker_form hp kAB
    have lP : (mKer p n (mKer p n (mRed p n first) ++ mKer p n (mRed p n B))).length ≤ n := by have := ker_len hp kAB; omega
    have cW : mRed p n (mRed p n B ++ mRed p n first) = mRed p n (mRed p n first ++ mRed p n B) := (red_uni hp (vcs_app rB rA) hW fun v => ⟨in_app hp rB rA hW (fun v h => in_right h) fun r h => in_left (In.row hp0 rA hp.two h), in_app hp rA rB (vcs_app rB rA) (fun v h => in_right h) fun r h => in_left (In.row hp0 rB hp.two h)⟩).1
    have kBA := vcs_app (ker_vcs hp rB) (ker_vcs hp rA)
    have cP : mKer p n (mKer p n (mRed p n B) ++ mKer p n (mRed p n first)) = mKer p n (mKer p n (mRed p n first) ++ mKer p n (mRed p n B)) := form_uni hp (ker_form hp kBA) fP (ker_vcs hp kBA) hP fun v => by
      rw [part_in hp rB rA, part_in hp rA rB]
      exact And.comm
    have ePart : (mSpan p n first).filter (fun v => decide (v ∈ mSpan p n B)) = mSpan p n (mKer p n (mKer p n (mRed p n first) ++ mKer p n (mRed p n B))) := by
      have e1 : mSpan p n first = (mAll p n).filter fun v => decide (v ∈ mSpan p n first) := mSpan_filter hp hA fun v _ => by rw [decide_eq_true_iff, mSpan_in hp hA]
      rw [e1, List.filter_filter]
      exact (mSpan_filter hp hP fun v _ => by
        rw [Bool.and_eq_true, decide_eq_true_iff, decide_eq_true_iff, part_in hp rA rB, iA, iB, mSpan_in hp hB, mSpan_in hp hA]
        exact And.comm).symm
    have hdim := rank_meet hp rA rB hP fun v => part_in hp rA rB v
    rw [rrA, rrB, ker_redK hp kAB] at hdim
    generalize hgW : mRed p n (mRed p n first ++ mRed p n B) = W at *
    generalize hgP : mKer p n (mKer p n (mRed p n first) ++ mKer p n (mRed p n B)) = P at *
    have vW : Vcs p n W := by rw [← hgW]; exact red_vcs hp hW
    refine rs_asg (d := .lst (rws (mSpan p n first))) (ev_lst (el_call (ea_cons (ev_var rfl) (ea_cons (ev_var rfl) (ea_one (ev_var rfl)))) ⟨_, first, n, p, rfl, .inl rfl, hp, hA, hz _ (by omega), by omega, rfl⟩)) ?_
    refine rs_asg (d := .lst (rws (mSpan p n B))) (ev_lst (el_call (ea_cons (ev_var rfl) (ea_cons (ev_var rfl) (ea_one (ev_var rfl)))) ⟨_, B, n, p, rfl, .inl rfl, hp, hB, hz _ (by omega), by omega, rfl⟩)) ?_
    refine rs_asg (ev_call (ea_cons (ev_var rfl) (ea_cons (ev_var rfl) (ea_one (ev_var rfl)))) ⟨_, first, n, p, rfl, .inl rfl, hp, hA, by omega, by omega, rfl⟩) ?_
    refine rs_asg (ev_call (ea_cons (ev_var rfl) (ea_cons (ev_var rfl) (ea_one (ev_var rfl)))) ⟨_, B, n, p, rfl, .inl rfl, hp, hB, by omega, by omega, rfl⟩) ?_
    refine rs_asg (d := .tup (rws W)) (Ev.to (ev_call (ea_cons (ev_var rfl) (ea_cons (ev_var rfl) (ea_cons (ev_var rfl) (ea_one (ev_var rfl))))) ⟨mRed p n first, mRed p n B, n, p, rfl, hp, rA, rB, by omega, by omega, by omega, rfl⟩) (by rw [hgW])) ?_
    refine rs_asg (d := .tup (rws P)) (Ev.to (ev_call (ea_cons (ev_var rfl) (ea_cons (ev_var rfl) (ea_cons (ev_var rfl) (ea_one (ev_var rfl))))) ⟨mRed p n first, mRed p n B, n, p, rfl, hp, rA, rB, by omega, by omega, by omega, rfl⟩) (by rw [hgP])) ?_
    refine rs_if (b := false) (EvT.to (et_or (et_not (et_test (ev_call (ea_cons (ev_var rfl) (ea_cons (Ev.to (ev_lst (el_call (ea_cons (Ev.to (ev_lst (ev_opL (ev_var rfl) (ev_var rfl) (av_lst (sz (by rw [List.length_map, List.length_map]; omega))))) (e := .lst (rws (first ++ B))) (by simp [rws])) (ea_cons (ev_var rfl) (ea_one (ev_var rfl)))) ⟨_, first ++ B, n, p, rfl, .inl rfl, hp, hAB, hz _ (by rw [List.length_append]; omega), by omega, rfl⟩)) (by rw [eW])) (ea_cons (ev_var rfl) (ea_one (ev_var rfl))))) ⟨W, n, p, rfl, fW, hp, vW, hz _ (by omega), by omega, by omega, rfl⟩))) fun _ => et_not (et_test (ev_call (ea_cons (ev_var rfl) (ea_cons (Ev.to (ev_lst (el_filt (xs := mSpan p n first) (enc := rw) (b := fun v => decide (v ∈ mSpan p n B)) (f := rw) (ei_seqL (ev_var rfl)) (sz (by have := lSp hA (by omega); omega)) fun v hv => ⟨_, gw_name, et_test (Ev.to (ev_op (ev_var rfl) (ev_var rfl) (iv_dat (rw_ok _) (rws_okL _))) (by rw [any_rws])), fun _ => ev_var rfl⟩)) (e := .lst (rws (mSpan p n P))) (by rw [← ePart])) (ea_cons (ev_var rfl) (ea_one (ev_var rfl))))) ⟨P, n, p, rfl, fP, hp, hP, hz _ (by omega), by omega, by omega, rfl⟩))) rfl) (fun c => absurd c (by decide)) fun _ => ?_
    refine rs_if (b := false) (EvT.to (et_or (et_test (ev_op (ev_op (ev_cb (ea_one (ev_var rfl)) cav_lenT) (ev_cb (ea_one (ev_var rfl)) cav_lenT) av_int) (ev_op (ev_cb (ea_one (ev_var rfl)) cav_lenT) (ev_cb (ea_one (ev_var rfl)) cav_lenT) av_int) nv_int)) fun _ => et_or (et_test (ev_op (Ev.to (ev_call (ea_cons (ev_var rfl) (ea_cons (ev_var rfl) (ea_cons (ev_var rfl) (ea_one (ev_var rfl))))) ⟨mRed p n B, mRed p n first, n, p, rfl, hp, rB, rA, by omega, by omega, by omega, rfl⟩) (e := .tup (rws W)) (by rw [cW])) (ev_var rfl) (nv_dat (rws_okT _) (rws_okT _)))) fun _ => et_test (ev_op (Ev.to (ev_call (ea_cons (ev_var rfl) (ea_cons (ev_var rfl) (ea_cons (ev_var rfl) (ea_one (ev_var rfl))))) ⟨mRed p n B, mRed p n first, n, p, rfl, hp, rB, rA, by omega, by omega, by omega, rfl⟩) (e := .tup (rws P)) (by rw [cP])) (ev_var rfl) (nv_dat (rws_okT _) (rws_okT _)))) (by
      rw [eqv_rfl (okD_pl (rws_okT _)), eqv_rfl (okD_pl (rws_okT _)), List.length_map, List.length_map, List.length_map, List.length_map, decide_eq_true (by omega)]
      rfl)) (fun c => absurd c (by decide)) fun _ => ?_
    refine run_retP q (Same.refl _) rfl rfl (ev_and (ev_op (ev_lst (EvL.to (el_map (xs := mSpan p n first) (enc := rw) (f := rw) (ei_gen (ea_cons (ev_var rfl) (ea_cons (ev_var rfl) (ea_one (ev_var rfl)))) ⟨_, mRed p n first, n, p, rfl, .inr rfl, hp, rA, fA, hz _ (by omega), by omega, by rw [spA]⟩) (sz (by have := lSp hA (by omega); omega)) fun v hv => ⟨_, gw_name, ev_var rfl⟩) (e := rws (mSpan p n first)) rfl)) (ev_var rfl) (qv_dat (rws_okL _) (rws_okL _))) (fun _ => ev_op (ev_lst (el_listT (T := fun es => es = rws (mSpan p n B)) (ea_cons (ev_var rfl) (ea_cons (ev_var rfl) (ea_one (ev_var rfl)))) ⟨_, mRed p n B, n, p, rfl, .inr rfl, hp, rB, fB, hz _ (by omega), by omega, by rw [spB]⟩)) (ev_var rfl) (qv_dat (rws_okL _) (rws_okL _))) ?fin) fun d e => ?_
    case fin => exact fun c => by rw [eqv_rfl (okD_pl (rws_okL _))] at c; cases c
    rw [e, eqv_rfl (okD_pl (rws_okL _))]
/-! ### the end -/
theorem all_mk {P : Program} {w : World} {K : PySem.W.Frag} {h : Heap} {mg : Str → Option Value} {fa f_inverse f_add f_scaled f_cleared f_reduced f_span f_kernel f_sum_of f_common_part f_members f__law_state f__law_take f__law_sum f__law_scaled f__law_zero f__law_element f__law_span f__law_in_form f__law_shows f__law_prime f__law_rows f_law : Addr} (X : K.In h) (G : h.Ns mainGlobals mg) (hfa : mg "law" = some (.ref fa))
    {od0 an0 : Option Addr} {sl0 : Array (Option Value)} {oc0 kV0 dc0 pm0 cd0 ct0 : Value}
    (a0 : PySem.W.nsIn K mainGlobals "inverse" = some (some (.ref f_inverse))) (l0 : K.lookup f_inverse = some ⟨oc0, od0, .func (PySem.W.fnOf "inverse" "inverse" (defArgs s_inverse) (defBody s_inverse) (defScope s_inverse) .none kV0 dc0 pm0 an0 cd0 ct0), sl0⟩) (c0 : PySem.W.codeIn K cd0 "inverse" = true) (k0 : PySem.W.keepIn K (.ref f_inverse) = true)
    {od1 an1 : Option Addr} {sl1 : Array (Option Value)} {oc1 kV1 dc1 pm1 cd1 ct1 : Value}
    (a1 : PySem.W.nsIn K mainGlobals "add" = some (some (.ref f_add))) (l1 : K.lookup f_add = some ⟨oc1, od1, .func (PySem.W.fnOf "add" "add" (defArgs s_add) (defBody s_add) (defScope s_add) .none kV1 dc1 pm1 an1 cd1 ct1), sl1⟩) (c1 : PySem.W.codeIn K cd1 "add" = true) (k1 : PySem.W.keepIn K (.ref f_add) = true)
    {od2 an2 : Option Addr} {sl2 : Array (Option Value)} {oc2 kV2 dc2 pm2 cd2 ct2 : Value}
    (a2 : PySem.W.nsIn K mainGlobals "scaled" = some (some (.ref f_scaled))) (l2 : K.lookup f_scaled = some ⟨oc2, od2, .func (PySem.W.fnOf "scaled" "scaled" (defArgs s_scaled) (defBody s_scaled) (defScope s_scaled) .none kV2 dc2 pm2 an2 cd2 ct2), sl2⟩) (c2 : PySem.W.codeIn K cd2 "scaled" = true) (k2 : PySem.W.keepIn K (.ref f_scaled) = true)
    {od3 an3 : Option Addr} {sl3 : Array (Option Value)} {oc3 kV3 dc3 pm3 cd3 ct3 : Value}
    (a3 : PySem.W.nsIn K mainGlobals "cleared" = some (some (.ref f_cleared))) (l3 : K.lookup f_cleared = some ⟨oc3, od3, .func (PySem.W.fnOf "cleared" "cleared" (defArgs s_cleared) (defBody s_cleared) (defScope s_cleared) .none kV3 dc3 pm3 an3 cd3 ct3), sl3⟩) (c3 : PySem.W.codeIn K cd3 "cleared" = true) (k3 : PySem.W.keepIn K (.ref f_cleared) = true)
    {od4 an4 : Option Addr} {sl4 : Array (Option Value)} {oc4 kV4 dc4 pm4 cd4 ct4 : Value}
    (a4 : PySem.W.nsIn K mainGlobals "reduced" = some (some (.ref f_reduced))) (l4 : K.lookup f_reduced = some ⟨oc4, od4, .func (PySem.W.fnOf "reduced" "reduced" (defArgs s_reduced) (defBody s_reduced) (defScope s_reduced) .none kV4 dc4 pm4 an4 cd4 ct4), sl4⟩) (c4 : PySem.W.codeIn K cd4 "reduced" = true) (k4 : PySem.W.keepIn K (.ref f_reduced) = true)
    {od5 an5 : Option Addr} {sl5 : Array (Option Value)} {oc5 kV5 dc5 pm5 cd5 ct5 : Value}
    (a5 : PySem.W.nsIn K mainGlobals "span" = some (some (.ref f_span))) (l5 : K.lookup f_span = some ⟨oc5, od5, .func (PySem.W.fnOf "span" "span" (defArgs s_span) (defBody s_span) (defScope s_span) .none kV5 dc5 pm5 an5 cd5 ct5), sl5⟩) (c5 : PySem.W.codeIn K cd5 "span" = true) (k5 : PySem.W.keepIn K (.ref f_span) = true)
    {od6 an6 : Option Addr} {sl6 : Array (Option Value)} {oc6 kV6 dc6 pm6 cd6 ct6 : Value}
    (a6 : PySem.W.nsIn K mainGlobals "kernel" = some (some (.ref f_kernel))) (l6 : K.lookup f_kernel = some ⟨oc6, od6, .func (PySem.W.fnOf "kernel" "kernel" (defArgs s_kernel) (defBody s_kernel) (defScope s_kernel) .none kV6 dc6 pm6 an6 cd6 ct6), sl6⟩) (c6 : PySem.W.codeIn K cd6 "kernel" = true) (k6 : PySem.W.keepIn K (.ref f_kernel) = true)
    {od7 an7 : Option Addr} {sl7 : Array (Option Value)} {oc7 kV7 dc7 pm7 cd7 ct7 : Value}
    (a7 : PySem.W.nsIn K mainGlobals "sum_of" = some (some (.ref f_sum_of))) (l7 : K.lookup f_sum_of = some ⟨oc7, od7, .func (PySem.W.fnOf "sum_of" "sum_of" (defArgs s_sum_of) (defBody s_sum_of) (defScope s_sum_of) .none kV7 dc7 pm7 an7 cd7 ct7), sl7⟩) (c7 : PySem.W.codeIn K cd7 "sum_of" = true) (k7 : PySem.W.keepIn K (.ref f_sum_of) = true)
    {od8 an8 : Option Addr} {sl8 : Array (Option Value)} {oc8 kV8 dc8 pm8 cd8 ct8 : Value}
    (a8 : PySem.W.nsIn K mainGlobals "common_part" = some (some (.ref f_common_part))) (l8 : K.lookup f_common_part = some ⟨oc8, od8, .func (PySem.W.fnOf "common_part" "common_part" (defArgs s_common_part) (defBody s_common_part) (defScope s_common_part) .none kV8 dc8 pm8 an8 cd8 ct8), sl8⟩) (c8 : PySem.W.codeIn K cd8 "common_part" = true) (k8 : PySem.W.keepIn K (.ref f_common_part) = true)
    {od9 an9 : Option Addr} {sl9 : Array (Option Value)} {oc9 kV9 dc9 pm9 cd9 ct9 : Value}
    (a9 : PySem.W.nsIn K mainGlobals "members" = some (some (.ref f_members))) (l9 : K.lookup f_members = some ⟨oc9, od9, .func (PySem.W.fnOf "members" "members" (defArgs s_members) (defBody s_members) (defScope s_members) .none kV9 dc9 pm9 an9 cd9 ct9), sl9⟩) (c9 : PySem.W.codeIn K cd9 "members" = true) (k9 : PySem.W.keepIn K (.ref f_members) = true)
    {od10 an10 : Option Addr} {sl10 : Array (Option Value)} {oc10 kV10 dc10 pm10 cd10 ct10 : Value}
    (a10 : PySem.W.nsIn K mainGlobals "_law_state" = some (some (.ref f__law_state))) (l10 : K.lookup f__law_state = some ⟨oc10, od10, .func (PySem.W.fnOf "_law_state" "_law_state" (defArgs s__law_state) (defBody s__law_state) (defScope s__law_state) .none kV10 dc10 pm10 an10 cd10 ct10), sl10⟩) (c10 : PySem.W.codeIn K cd10 "_law_state" = true) (k10 : PySem.W.keepIn K (.ref f__law_state) = true)
    {od11 an11 : Option Addr} {sl11 : Array (Option Value)} {oc11 kV11 dc11 pm11 cd11 ct11 : Value}
    (a11 : PySem.W.nsIn K mainGlobals "_law_take" = some (some (.ref f__law_take))) (l11 : K.lookup f__law_take = some ⟨oc11, od11, .func (PySem.W.fnOf "_law_take" "_law_take" (defArgs s__law_take) (defBody s__law_take) (defScope s__law_take) .none kV11 dc11 pm11 an11 cd11 ct11), sl11⟩) (c11 : PySem.W.codeIn K cd11 "_law_take" = true) (k11 : PySem.W.keepIn K (.ref f__law_take) = true)
    {od12 an12 : Option Addr} {sl12 : Array (Option Value)} {oc12 kV12 dc12 pm12 cd12 ct12 : Value}
    (a12 : PySem.W.nsIn K mainGlobals "_law_sum" = some (some (.ref f__law_sum))) (l12 : K.lookup f__law_sum = some ⟨oc12, od12, .func (PySem.W.fnOf "_law_sum" "_law_sum" (defArgs s__law_sum) (defBody s__law_sum) (defScope s__law_sum) .none kV12 dc12 pm12 an12 cd12 ct12), sl12⟩) (c12 : PySem.W.codeIn K cd12 "_law_sum" = true) (k12 : PySem.W.keepIn K (.ref f__law_sum) = true)
    {od13 an13 : Option Addr} {sl13 : Array (Option Value)} {oc13 kV13 dc13 pm13 cd13 ct13 : Value}
    (a13 : PySem.W.nsIn K mainGlobals "_law_scaled" = some (some (.ref f__law_scaled))) (l13 : K.lookup f__law_scaled = some ⟨oc13, od13, .func (PySem.W.fnOf "_law_scaled" "_law_scaled" (defArgs s__law_scaled) (defBody s__law_scaled) (defScope s__law_scaled) .none kV13 dc13 pm13 an13 cd13 ct13), sl13⟩) (c13 : PySem.W.codeIn K cd13 "_law_scaled" = true) (k13 : PySem.W.keepIn K (.ref f__law_scaled) = true)
    {od14 an14 : Option Addr} {sl14 : Array (Option Value)} {oc14 kV14 dc14 pm14 cd14 ct14 : Value}
    (a14 : PySem.W.nsIn K mainGlobals "_law_zero" = some (some (.ref f__law_zero))) (l14 : K.lookup f__law_zero = some ⟨oc14, od14, .func (PySem.W.fnOf "_law_zero" "_law_zero" (defArgs s__law_zero) (defBody s__law_zero) (defScope s__law_zero) .none kV14 dc14 pm14 an14 cd14 ct14), sl14⟩) (c14 : PySem.W.codeIn K cd14 "_law_zero" = true) (k14 : PySem.W.keepIn K (.ref f__law_zero) = true)
    {od15 an15 : Option Addr} {sl15 : Array (Option Value)} {oc15 kV15 dc15 pm15 cd15 ct15 : Value}
    (a15 : PySem.W.nsIn K mainGlobals "_law_element" = some (some (.ref f__law_element))) (l15 : K.lookup f__law_element = some ⟨oc15, od15, .func (PySem.W.fnOf "_law_element" "_law_element" (defArgs s__law_element) (defBody s__law_element) (defScope s__law_element) .none kV15 dc15 pm15 an15 cd15 ct15), sl15⟩) (c15 : PySem.W.codeIn K cd15 "_law_element" = true) (k15 : PySem.W.keepIn K (.ref f__law_element) = true)
    {od16 an16 : Option Addr} {sl16 : Array (Option Value)} {oc16 kV16 dc16 pm16 cd16 ct16 : Value}
    (a16 : PySem.W.nsIn K mainGlobals "_law_span" = some (some (.ref f__law_span))) (l16 : K.lookup f__law_span = some ⟨oc16, od16, .func (PySem.W.fnOf "_law_span" "_law_span" (defArgs s__law_span) (defBody s__law_span) (defScope s__law_span) .none kV16 dc16 pm16 an16 cd16 ct16), sl16⟩) (c16 : PySem.W.codeIn K cd16 "_law_span" = true) (k16 : PySem.W.keepIn K (.ref f__law_span) = true)
    {od17 an17 : Option Addr} {sl17 : Array (Option Value)} {oc17 kV17 dc17 pm17 cd17 ct17 : Value}
    (a17 : PySem.W.nsIn K mainGlobals "_law_in_form" = some (some (.ref f__law_in_form))) (l17 : K.lookup f__law_in_form = some ⟨oc17, od17, .func (PySem.W.fnOf "_law_in_form" "_law_in_form" (defArgs s__law_in_form) (defBody s__law_in_form) (defScope s__law_in_form) .none kV17 dc17 pm17 an17 cd17 ct17), sl17⟩) (c17 : PySem.W.codeIn K cd17 "_law_in_form" = true) (k17 : PySem.W.keepIn K (.ref f__law_in_form) = true)
    {od18 an18 : Option Addr} {sl18 : Array (Option Value)} {oc18 kV18 dc18 pm18 cd18 ct18 : Value}
    (a18 : PySem.W.nsIn K mainGlobals "_law_shows" = some (some (.ref f__law_shows))) (l18 : K.lookup f__law_shows = some ⟨oc18, od18, .func (PySem.W.fnOf "_law_shows" "_law_shows" (defArgs s__law_shows) (defBody s__law_shows) (defScope s__law_shows) .none kV18 dc18 pm18 an18 cd18 ct18), sl18⟩) (c18 : PySem.W.codeIn K cd18 "_law_shows" = true) (k18 : PySem.W.keepIn K (.ref f__law_shows) = true)
    {od19 an19 : Option Addr} {sl19 : Array (Option Value)} {oc19 kV19 dc19 pm19 cd19 ct19 : Value}
    (a19 : PySem.W.nsIn K mainGlobals "_law_prime" = some (some (.ref f__law_prime))) (l19 : K.lookup f__law_prime = some ⟨oc19, od19, .func (PySem.W.fnOf "_law_prime" "_law_prime" (defArgs s__law_prime) (defBody s__law_prime) (defScope s__law_prime) .none kV19 dc19 pm19 an19 cd19 ct19), sl19⟩) (c19 : PySem.W.codeIn K cd19 "_law_prime" = true) (k19 : PySem.W.keepIn K (.ref f__law_prime) = true)
    {od20 an20 : Option Addr} {sl20 : Array (Option Value)} {oc20 kV20 dc20 pm20 cd20 ct20 : Value}
    (a20 : PySem.W.nsIn K mainGlobals "_law_rows" = some (some (.ref f__law_rows))) (l20 : K.lookup f__law_rows = some ⟨oc20, od20, .func (PySem.W.fnOf "_law_rows" "_law_rows" (defArgs s__law_rows) (defBody s__law_rows) (defScope s__law_rows) .none kV20 dc20 pm20 an20 cd20 ct20), sl20⟩) (c20 : PySem.W.codeIn K cd20 "_law_rows" = true) (k20 : PySem.W.keepIn K (.ref f__law_rows) = true)
    {od21 an21 : Option Addr} {sl21 : Array (Option Value)} {oc21 kV21 dc21 pm21 cd21 ct21 : Value}
    (a21 : PySem.W.nsIn K mainGlobals "law" = some (some (.ref f_law))) (l21 : K.lookup f_law = some ⟨oc21, od21, .func (PySem.W.fnOf "law" "law" (defArgs s_law) (defBody s_law) (defScope s_law) .none kV21 dc21 pm21 an21 cd21 ct21), sl21⟩) (c21 : PySem.W.codeIn K cd21 "law" = true) (k21 : PySem.W.keepIn K (.ref f_law) = true)
    (z_range : PySem.W.nsIn K mainGlobals "range" = some none)
    (z_tuple : PySem.W.nsIn K mainGlobals "tuple" = some none)
    (z_zip : PySem.W.nsIn K mainGlobals "zip" = some none)
    (z_len : PySem.W.nsIn K mainGlobals "len" = some none)
    (z_int : PySem.W.nsIn K mainGlobals "int" = some none)
    (z_sorted : PySem.W.nsIn K mainGlobals "sorted" = some none)
    (z_abs : PySem.W.nsIn K mainGlobals "abs" = some none)
    (z_list : PySem.W.nsIn K mainGlobals "list" = some none)
    (z_isinstance : PySem.W.nsIn K mainGlobals "isinstance" = some none)
    : ∃ fd : FuncData, (∀ (s : Shared) (v : Value), BindsTo s fd ⟨[v], []⟩ [("_law_script", v)]) ∧ ∀ base : Heap, K.In base → base.Ns mainGlobals mg → FnOk P w K mg base (L2.CX P w) 6 fa fd ["_law_script"] (spec_law K) := by
  have e := hfa.symm.trans (PySem.W.mg_of X G a21)
  cases e
  have hB : Bl mg := ⟨PySem.W.mg_none_of X G z_range, PySem.W.mg_none_of X G z_tuple, PySem.W.mg_none_of X G z_zip, PySem.W.mg_none_of X G z_len, PySem.W.mg_none_of X G z_int, PySem.W.mg_none_of X G z_sorted, PySem.W.mg_none_of X G z_abs, PySem.W.mg_none_of X G z_list, PySem.W.mg_none_of X G z_isinstance⟩
  have F_inverse := fun_mk (st := s_inverse) l0 c0 k0
  have F_add := fun_mk (st := s_add) l1 c1 k1
  have F_scaled := fun_mk (st := s_scaled) l2 c2 k2
  have F_cleared := fun_mk (st := s_cleared) l3 c3 k3
  have F_reduced := fun_mk (st := s_reduced) l4 c4 k4
  have F_span := fun_mk (st := s_span) l5 c5 k5
  have F_kernel := fun_mk (st := s_kernel) l6 c6 k6
  have F_sum_of := fun_mk (st := s_sum_of) l7 c7 k7
  have F_common_part := fun_mk (st := s_common_part) l8 c8 k8
  have F_members := fun_mk (st := s_members) l9 c9 k9
  have F__law_state := fun_mk (st := s__law_state) l10 c10 k10
  have F__law_take := fun_mk (st := s__law_take) l11 c11 k11
  have F__law_sum := fun_mk (st := s__law_sum) l12 c12 k12
  have F__law_scaled := fun_mk (st := s__law_scaled) l13 c13 k13
  have F__law_zero := fun_mk (st := s__law_zero) l14 c14 k14
  have F__law_element := fun_mk (st := s__law_element) l15 c15 k15
  have F__law_span := fun_mk (st := s__law_span) l16 c16 k16
  have F__law_in_form := fun_mk (st := s__law_in_form) l17 c17 k17
  have F__law_shows := fun_mk (st := s__law_shows) l18 c18 k18
  have F__law_prime := fun_mk (st := s__law_prime) l19 c19 k19
  have F__law_rows := fun_mk (st := s__law_rows) l20 c20 k20
  have F_law := fun_mk (st := s_law) l21 c21 k21
  refine ⟨PySem.W.fnOf "law" "law" (defArgs s_law) (defBody s_law) (defScope s_law) .none kV21 dc21 pm21 an21 cd21 ct21, fun s v => .of_eq rfl, fun base _ _ => ?_⟩
  have D_inverse : Df P w K mg base "inverse" 1 ["a", "p"] (spec_inverse K) := ⟨_, _, ok_inverse hB  F_inverse, PySem.W.mg_of X G a0, k0, F_inverse.binds (ps := ["a", "p"]) fun _ _ _ _ _ _ us hl => match us, hl with | [_, _], _ => rfl⟩
  have D_add : Df P w K mg base "add" 1 ["v", "w", "p"] (spec_add K) := ⟨_, _, ok_add hB  F_add, PySem.W.mg_of X G a1, k1, F_add.binds (ps := ["v", "w", "p"]) fun _ _ _ _ _ _ us hl => match us, hl with | [_, _, _], _ => rfl⟩
  have D_scaled : Df P w K mg base "scaled" 1 ["v", "a", "p"] (spec_scaled K) := ⟨_, _, ok_scaled hB  F_scaled, PySem.W.mg_of X G a2, k2, F_scaled.binds (ps := ["v", "a", "p"]) fun _ _ _ _ _ _ us hl => match us, hl with | [_, _, _], _ => rfl⟩
  have D_cleared : Df P w K mg base "cleared" 1 ["row", "head", "at", "p"] (spec_cleared K) := ⟨_, _, ok_cleared hB  F_cleared, PySem.W.mg_of X G a3, k3, F_cleared.binds (ps := ["row", "head", "at", "p"]) fun _ _ _ _ _ _ us hl => match us, hl with | [_, _, _, _], _ => rfl⟩
  have D_reduced : Df P w K mg base "reduced" 2 ["rows", "width", "p"] (spec_reduced K) := ⟨_, _, ok_reduced hB D_cleared D_scaled D_inverse F_reduced, PySem.W.mg_of X G a4, k4, F_reduced.binds (ps := ["rows", "width", "p"]) fun _ _ _ _ _ _ us hl => match us, hl with | [_, _, _], _ => rfl⟩
  have D_span : Df P w K mg base "span" 3 ["rows", "width", "p"] (spec_span K) := ⟨_, _, ok_span hB D_reduced F_span, PySem.W.mg_of X G a5, k5, F_span.binds (ps := ["rows", "width", "p"]) fun _ _ _ _ _ _ us hl => match us, hl with | [_, _, _], _ => rfl⟩
  have D_kernel : Df P w K mg base "kernel" 4 ["rows", "width", "p"] (spec_kernel K) := ⟨_, _, ok_kernel hB D_span D_reduced F_kernel, PySem.W.mg_of X G a6, k6, F_kernel.binds (ps := ["rows", "width", "p"]) fun _ _ _ _ _ _ us hl => match us, hl with | [_, _, _], _ => rfl⟩
  have D_sum_of : Df P w K mg base "sum_of" 4 ["a", "b", "width", "p"] (spec_sum_of K) := ⟨_, _, ok_sum_of hB D_span F_sum_of, PySem.W.mg_of X G a7, k7, F_sum_of.binds (ps := ["a", "b", "width", "p"]) fun _ _ _ _ _ _ us hl => match us, hl with | [_, _, _, _], _ => rfl⟩
  have D_common_part : Df P w K mg base "common_part" 5 ["a", "b", "width", "p"] (spec_common_part K) := ⟨_, _, ok_common_part hB D_kernel F_common_part, PySem.W.mg_of X G a8, k8, F_common_part.binds (ps := ["a", "b", "width", "p"]) fun _ _ _ _ _ _ us hl => match us, hl with | [_, _, _, _], _ => rfl⟩
  have D_members : DfT P w K mg base "members" 2 ["space", "width", "p"] (spec_members K) := ⟨_, _, ok_members hB D_add D_scaled F_members, PySem.W.mg_of X G a9, k9, F_members.binds (ps := ["space", "width", "p"]) fun _ _ _ _ _ _ us hl => match us, hl with | [_, _, _], _ => rfl⟩
  have D__law_state : Df P w K mg base "_law_state" 1 ["_law_script"] (spec__law_state K) := ⟨_, _, ok__law_state hB  F__law_state, PySem.W.mg_of X G a10, k10, F__law_state.binds (ps := ["_law_script"]) fun _ _ _ _ _ _ us hl => match us, hl with | [_], _ => rfl⟩
  have D__law_take : Df P w K mg base "_law_take" 1 ["_law_state_here", "_law_m"] (spec__law_take K) := ⟨_, _, ok__law_take hB  F__law_take, PySem.W.mg_of X G a11, k11, F__law_take.binds (ps := ["_law_state_here", "_law_m"]) fun _ _ _ _ _ _ us hl => match us, hl with | [_, _], _ => rfl⟩
  have D__law_sum : Df P w K mg base "_law_sum" 1 ["_law_v", "_law_w", "_law_p"] (spec__law_sum K) := ⟨_, _, ok__law_sum hB  F__law_sum, PySem.W.mg_of X G a12, k12, F__law_sum.binds (ps := ["_law_v", "_law_w", "_law_p"]) fun _ _ _ _ _ _ us hl => match us, hl with | [_, _, _], _ => rfl⟩
  have D__law_scaled : Df P w K mg base "_law_scaled" 1 ["_law_v", "_law_a", "_law_p"] (spec__law_scaled K) := ⟨_, _, ok__law_scaled hB  F__law_scaled, PySem.W.mg_of X G a13, k13, F__law_scaled.binds (ps := ["_law_v", "_law_a", "_law_p"]) fun _ _ _ _ _ _ us hl => match us, hl with | [_, _, _], _ => rfl⟩
  have D__law_zero : Df P w K mg base "_law_zero" 1 ["_law_n"] (spec__law_zero K) := ⟨_, _, ok__law_zero hB  F__law_zero, PySem.W.mg_of X G a14, k14, F__law_zero.binds (ps := ["_law_n"]) fun _ _ _ _ _ _ us hl => match us, hl with | [_], _ => rfl⟩
  have D__law_element : Df P w K mg base "_law_element" 2 ["_law_state_here", "_law_p", "_law_n"] (spec__law_element K) := ⟨_, _, ok__law_element hB D__law_take F__law_element, PySem.W.mg_of X G a15, k15, F__law_element.binds (ps := ["_law_state_here", "_law_p", "_law_n"]) fun _ _ _ _ _ _ us hl => match us, hl with | [_, _, _], _ => rfl⟩
  have D__law_span : Df P w K mg base "_law_span" 2 ["_law_rows_here", "_law_n", "_law_p"] (spec__law_span K) := ⟨_, _, ok__law_span hB D__law_sum D__law_scaled D__law_zero F__law_span, PySem.W.mg_of X G a16, k16, F__law_span.binds (ps := ["_law_rows_here", "_law_n", "_law_p"]) fun _ _ _ _ _ _ us hl => match us, hl with | [_, _, _], _ => rfl⟩
  have D__law_in_form : Df P w K mg base "_law_in_form" 1 ["_law_told", "_law_n"] (spec__law_in_form K) := ⟨_, _, ok__law_in_form hB  F__law_in_form, PySem.W.mg_of X G a17, k17, F__law_in_form.binds (ps := ["_law_told", "_law_n"]) fun _ _ _ _ _ _ us hl => match us, hl with | [_, _], _ => rfl⟩
  have D__law_shows : Df P w K mg base "_law_shows" 3 ["_law_told", "_law_words", "_law_n", "_law_p"] (spec__law_shows K) := ⟨_, _, ok__law_shows hB D__law_in_form D__law_span F__law_shows, PySem.W.mg_of X G a18, k18, F__law_shows.binds (ps := ["_law_told", "_law_words", "_law_n", "_law_p"]) fun _ _ _ _ _ _ us hl => match us, hl with | [_, _, _, _], _ => rfl⟩
  have D__law_prime : Df P w K mg base "_law_prime" 2 ["_law_state_here"] (spec__law_prime K) := ⟨_, _, ok__law_prime hB D__law_take F__law_prime, PySem.W.mg_of X G a19, k19, F__law_prime.binds (ps := ["_law_state_here"]) fun _ _ _ _ _ _ us hl => match us, hl with | [_], _ => rfl⟩
  have D__law_rows : Df P w K mg base "_law_rows" 3 ["_law_state_here", "_law_p", "_law_n", "_law_most"] (spec__law_rows K) := ⟨_, _, ok__law_rows hB D__law_take D__law_element F__law_rows, PySem.W.mg_of X G a20, k20, F__law_rows.binds (ps := ["_law_state_here", "_law_p", "_law_n", "_law_most"]) fun _ _ _ _ _ _ us hl => match us, hl with | [_, _, _, _], _ => rfl⟩
  exact ok_law hB D_members D_sum_of D_common_part D__law_shows D__law_span D_span D__law_take D__law_rows D__law_prime D__law_state F_law
end Dl
open PySem PySem.W PyProof.Rows
set_option maxRecDepth 100000 in
set_option maxHeartbeats 0 in
theorem PySem.Challenge.cw_algebraparts_k04_whole_spaces_holds : PySem.Challenge.rw_algebraparts_k04_whole_spaces.Holds := by
  w_on; o_law; k_head; (case hw => w_witness2)
  k_fill
  refine L2.walk_of (l := PySem.Challenge.rw_algebraparts_k04_whole_spaces) (n := 63) (k := 6) (x := "_law_script") (CX := fun w => L2.CX (PySem.Challenge.rw_algebraparts_k04_whole_spaces).prog w) (sp := fun w => Dl.spec_law _) rfl (by decide) rfl ⟨rfl, by decide, by decide⟩ (fun w h Y => PySem.W.kIn_of Y) ?F (fun _ H a ns _ _ hS => ⟨[], [.sls (ns.map Dl.D.int)], _, .cons (.sls hS (Dl.Ats.ofInts ns)) .nil, (fun _ z => nomatch z), ⟨ns, rfl, rfl⟩, fun d v H2 e _ a2 => by subst e; cases a2; rfl⟩) (fun _ _ _ _ _ z => by obtain ⟨_, _, _, _, _, _, _, _, _, _, _, _, z⟩ := z; exact z)
  case F =>
    intro w mg fa h KX G hmg
    refine' Dl.all_mk KX G hmg ?a0 ?l0 ?c0 ?k0 ?a1 ?l1 ?c1 ?k1 ?a2 ?l2 ?c2 ?k2 ?a3 ?l3 ?c3 ?k3 ?a4 ?l4 ?c4 ?k4 ?a5 ?l5 ?c5 ?k5 ?a6 ?l6 ?c6 ?k6 ?a7 ?l7 ?c7 ?k7 ?a8 ?l8 ?c8 ?k8 ?a9 ?l9 ?c9 ?k9 ?a10 ?l10 ?c10 ?k10 ?a11 ?l11 ?c11 ?k11 ?a12 ?l12 ?c12 ?k12 ?a13 ?l13 ?c13 ?k13 ?a14 ?l14 ?c14 ?k14 ?a15 ?l15 ?c15 ?k15 ?a16 ?l16 ?c16 ?k16 ?a17 ?l17 ?c17 ?k17 ?a18 ?l18 ?c18 ?k18 ?a19 ?l19 ?c19 ?k19 ?a20 ?l20 ?c20 ?k20 ?a21 ?l21 ?c21 ?k21 ?z_range ?z_tuple ?z_zip ?z_len ?z_int ?z_sorted ?z_abs ?z_list ?z_isinstance 
    (case a0 => k_is)
    (case l0 => k_is)
    (case c0 => k_is)
    (case k0 => k_is)
    (case a1 => k_is)
    (case l1 => k_is)
    (case c1 => k_is)
    (case k1 => k_is)
    (case a2 => k_is)
    (case l2 => k_is)
    (case c2 => k_is)
    (case k2 => k_is)
    (case a3 => k_is)
    (case l3 => k_is)
    (case c3 => k_is)
    (case k3 => k_is)
    (case a4 => k_is)
    (case l4 => k_is)
    (case c4 => k_is)
    (case k4 => k_is)
    (case a5 => k_is)
    (case l5 => k_is)
    (case c5 => k_is)
    (case k5 => k_is)
    (case a6 => k_is)
    (case l6 => k_is)
    (case c6 => k_is)
    (case k6 => k_is)
    (case a7 => k_is)
    (case l7 => k_is)
    (case c7 => k_is)
    (case k7 => k_is)
    (case a8 => k_is)
    (case l8 => k_is)
    (case c8 => k_is)
    (case k8 => k_is)
    (case a9 => k_is)
    (case l9 => k_is)
    (case c9 => k_is)
    (case k9 => k_is)
    (case a10 => k_is)
    (case l10 => k_is)
    (case c10 => k_is)
    (case k10 => k_is)
    (case a11 => k_is)
    (case l11 => k_is)
    (case c11 => k_is)
    (case k11 => k_is)
    (case a12 => k_is)
    (case l12 => k_is)
    (case c12 => k_is)
    (case k12 => k_is)
    (case a13 => k_is)
    (case l13 => k_is)
    (case c13 => k_is)
    (case k13 => k_is)
    (case a14 => k_is)
    (case l14 => k_is)
    (case c14 => k_is)
    (case k14 => k_is)
    (case a15 => k_is)
    (case l15 => k_is)
    (case c15 => k_is)
    (case k15 => k_is)
    (case a16 => k_is)
    (case l16 => k_is)
    (case c16 => k_is)
    (case k16 => k_is)
    (case a17 => k_is)
    (case l17 => k_is)
    (case c17 => k_is)
    (case k17 => k_is)
    (case a18 => k_is)
    (case l18 => k_is)
    (case c18 => k_is)
    (case k18 => k_is)
    (case a19 => k_is)
    (case l19 => k_is)
    (case c19 => k_is)
    (case k19 => k_is)
    (case a20 => k_is)
    (case l20 => k_is)
    (case c20 => k_is)
    (case k20 => k_is)
    (case a21 => k_is)
    (case l21 => k_is)
    (case c21 => k_is)
    (case k21 => k_is)
    (case z_range => k_is)
    (case z_tuple => k_is)
    (case z_zip => k_is)
    (case z_len => k_is)
    (case z_int => k_is)
    (case z_sorted => k_is)
    (case z_abs => k_is)
    (case z_list => k_is)
    (case z_isinstance => k_is)
