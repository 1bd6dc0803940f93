import PyProof.Rows.All
import Wide.All
import OpenK.AllK
import Wide.FinOn
import HandS.ForMost
import HandS.Flow
import HandS.Style
import HandS.Wide
import HandS.Property
import HandS.SortKw
import HandS.Evl
import HandS.ForExc
import HandS.IsInst
import HandS.Conv
import HandS.SetFor
import KE.DataMinMax
import KE.SortData
import HandS.Defaults
import HandS.ExcOwn
import HandS.WordsExc
import HandS.TryOnly
import HandS.ExcIs
import PySem.Challenge.RW_fewestwait_k71_refused_works
set_option Elab.async false
set_option linter.all false
set_option autoImplicit false
set_option maxRecDepth 100000
set_option maxHeartbeats 1000000
/-! MX, part 1: data by value, the store of owned objects, how both lie in the abstract heap, the mirror's results. -/
namespace MX
open PySem L2

/-- data by value; own k: a handle to the k-th owned object; adr a: a thing of which only its place is known (a caught exception) -/
inductive D where
  | non | bl (b : Bool) | int (i : Int) | str (x : Str)
  | lst (xs : List D) | tup (xs : List D) | obj (c : Nat) (xs : List D)
  | scr (xs : List Int) | own (k : Nat) | adr (a : Nat)
/-- an owned object -/
inductive MO where
  | lst (xs : List D) | obj (c : Nat) (xs : List D) | dic (ks : List (Key × D)) | fz (xs : List D)
abbrev Sto := List MO
abbrev Env := List (Option D)
/-- an exception: its class, its field -/
structure Exc where
  c : Nat
  at_ : Option D
inductive Res (α : Type) where
  | ok (a : α) (s : Sto) | er (e : Exc) (s : Sto) | bad
def Res.bind {α β : Type} (r : Res α) (g : α → Sto → Res β) : Res β := match r with
  | .ok a s => g a s
  | .er e s => .er e s
  | .bad => .bad
@[simp] theorem Res.bind_ok {α β : Type} (a : α) (s : Sto) (g : α → Sto → Res β) : (Res.ok a s).bind g = g a s := rfl
@[simp] theorem Res.bind_er {α β : Type} (e : Exc) (s : Sto) (g : α → Sto → Res β) : (Res.er e s : Res α).bind g = .er e s := rfl
@[simp] theorem Res.bind_bad {α β : Type} (g : α → Sto → Res β) : (Res.bad : Res α).bind g = .bad := rfl
/-- a statement's end -/
inductive SRes where
  | nx (e : Env) (s : Sto) | rt (d : D) (s : Sto) | bk (e : Env) (s : Sto) | ct (e : Env) (s : Sto) | er (x : Exc) (e : Env) (s : Sto) | bad
/-- the classes' attributes, in the order in which __init__ stores them -/
def lay : Nat → List Str
  | 0 => ["falling"]
  | 5 => ["rule", "states"]
  | 6 => ["live"]
  | _ => []
theorem lay_nd (c : Nat) : (lay c).Nodup := by
  unfold lay
  split
  · decide +kernel
  · decide +kernel
  · decide +kernel
  · exact List.nodup_nil
theorem lay_len (c : Nat) : (lay c).length ≤ 2 := by
  unfold lay
  split <;> simp

abbrev Ex (H H' : Hp) : Prop := Evl.Ex H H'
abbrev CA := Nat → Addr

/-! ### how data lies in a heap -/
section
variable (K : PySem.W.Frag) (ca : CA)
mutual
inductive RV (F : Hp) (r : List Addr) : V → D → Prop where
  | non : RV F r .non .non
  | bl (b : Bool) : RV F r (.bl b) (.bl b)
  | int (i : Int) : RV F r (.int i) (.int i)
  | str (x : Str) : RV F r (.str x) (.str x)
  | lst {a : Addr} {xs : List V} {ds : List D} (h : F a = some (.lst xs)) (q : RVs F r xs ds) : RV F r (.ref a) (.lst ds)
  | tup {a : Addr} {xs : List V} {ds : List D} (h : SqT K F a xs) (q : RVs F r xs ds) : RV F r (.ref a) (.tup ds)
  | obj {a dx : Addr} {c : Nat} {xs : List V} {ds : List D} (h : F a = some (.ins (ca c) dx ((lay c).zip xs))) (hl : xs.length = (lay c).length) (q : RVs F r xs ds) : RV F r (.ref a) (.obj c ds)
  | scr {a : Addr} {ns : List Int} (h : SqL K F a (ns.map V.int)) : RV F r (.ref a) (.scr ns)
  | own {a : Addr} {k : Nat} (h : r[k]? = some a) : RV F r (.ref a) (.own k)
  | adr (a : Addr) : RV F r (.ref a) (.adr a)
inductive RVs (F : Hp) (r : List Addr) : List V → List D → Prop where
  | nil : RVs F r [] []
  | cons {x : V} {d : D} {xs : List V} {ds : List D} (h : RV F r x d) (t : RVs F r xs ds) : RVs F r (x :: xs) (d :: ds)
end
end
section
variable {K : PySem.W.Frag} {ca : CA} {F F' : Hp} {r r' : List Addr}
theorem pre_get {l l' : List Addr} (h : l <+: l') {k : Nat} {a : Addr} (e : l[k]? = some a) : l'[k]? = some a := by
  obtain ⟨t, rfl⟩ := h
  have := (List.getElem?_eq_some_iff.mp e).1
  rw [List.getElem?_append_left this]
  exact e
mutual
theorem RV.mono (e : Ex F F') (p : r <+: r') : ∀ {v : V} {d : D}, RV K ca F r v d → RV K ca F' r' v d
  | _, _, .non => .non
  | _, _, .bl b => .bl b
  | _, _, .int i => .int i
  | _, _, .str x => .str x
  | _, _, .lst h q => .lst (e _ _ h) (RVs.mono e p q)
  | _, _, .tup h q => .tup (Evl.ex_t e h) (RVs.mono e p q)
  | _, _, .obj h hl q => .obj (e _ _ h) hl (RVs.mono e p q)
  | _, _, .scr h => .scr (Evl.ex_l e h)
  | _, _, .own h => .own (pre_get p h)
  | _, _, .adr a => .adr a
theorem RVs.mono (e : Ex F F') (p : r <+: r') : ∀ {vs : List V} {ds : List D}, RVs K ca F r vs ds → RVs K ca F' r' vs ds
  | _, _, .nil => .nil
  | _, _, .cons h t => .cons (RV.mono e p h) (RVs.mono e p t)
end
theorem RVs.length : ∀ {vs : List V} {ds : List D}, RVs K ca F r vs ds → vs.length = ds.length
  | _, _, .nil => rfl
  | _, _, .cons _ t => by rw [List.length_cons, List.length_cons, RVs.length t]
theorem RVs.get : ∀ {vs : List V} {ds : List D} {i : Nat} {d : D}, RVs K ca F r vs ds → ds[i]? = some d → ∃ v, vs[i]? = some v ∧ RV K ca F r v d
  | _, _, _, _, .nil, h => by simp at h
  | _, _, 0, _, .cons h _, e => by simp at e; subst e; exact ⟨_, rfl, h⟩
  | _, _, i + 1, d, .cons _ t, e => by
    obtain ⟨v, h1, h2⟩ := RVs.get (i := i) (d := d) t (by simpa using e)
    exact ⟨v, by simpa using h1, h2⟩
theorem RVs.getV : ∀ {vs : List V} {ds : List D} {i : Nat} {v : V}, RVs K ca F r vs ds → vs[i]? = some v → ∃ d, ds[i]? = some d ∧ RV K ca F r v d
  | _, _, _, _, .nil, h => by simp at h
  | _, _, 0, _, .cons h _, e => by simp at e; subst e; exact ⟨_, rfl, h⟩
  | _, _, i + 1, d, .cons _ t, e => by
    obtain ⟨v, h1, h2⟩ := RVs.getV (i := i) (v := d) t (by simpa using e)
    exact ⟨v, by simpa using h1, h2⟩
theorem RVs.append : ∀ {xs ys : List V} {ds es : List D}, RVs K ca F r xs ds → RVs K ca F r ys es → RVs K ca F r (xs ++ ys) (ds ++ es)
  | _, _, _, _, .nil, h => h
  | _, _, _, _, .cons h t, q => .cons h (RVs.append t q)
theorem RVs.set {x : V} {d : D} (h : RV K ca F r x d) : ∀ {xs : List V} {ds : List D} (i : Nat), RVs K ca F r xs ds → RVs K ca F r (xs.set i x) (ds.set i d)
  | _, _, _, .nil => .nil
  | _, _, 0, .cons _ t => .cons h t
  | _, _, i + 1, .cons q t => .cons q (RVs.set h i t)
theorem RVs.take : ∀ {xs : List V} {ds : List D} (n : Nat), RVs K ca F r xs ds → RVs K ca F r (xs.take n) (ds.take n)
  | _, _, 0, _ => .nil
  | _, _, _ + 1, .nil => .nil
  | _, _, n + 1, .cons h t => .cons h (RVs.take n t)
theorem RVs.drop : ∀ {xs : List V} {ds : List D} (n : Nat), RVs K ca F r xs ds → RVs K ca F r (xs.drop n) (ds.drop n)
  | _, _, 0, q => q
  | _, _, _ + 1, .nil => .nil
  | _, _, n + 1, .cons _ t => RVs.drop n t
theorem RVs.dropLast : ∀ {xs : List V} {ds : List D}, RVs K ca F r xs ds → RVs K ca F r xs.dropLast ds.dropLast
  | _, _, .nil => .nil
  | _, _, .cons _ .nil => .nil
  | _, _, .cons h (.cons q t) => .cons h (RVs.dropLast (.cons q t))
theorem RVs.eraseIdx : ∀ {xs : List V} {ds : List D} (i : Nat), RVs K ca F r xs ds → RVs K ca F r (xs.eraseIdx i) (ds.eraseIdx i)
  | _, _, _, .nil => .nil
  | _, _, 0, .cons _ t => t
  | _, _, i + 1, .cons h t => .cons h (RVs.eraseIdx i t)
theorem RVs.reverse {xs : List V} {ds : List D} (q : RVs K ca F r xs ds) : RVs K ca F r xs.reverse ds.reverse := by
  induction q using RVs.rec (motive_1 := fun _ _ _ => True) with
  | nil => exact .nil
  | cons h t _ ih => rw [List.reverse_cons, List.reverse_cons]; exact ih.append (.cons h .nil)
  | _ => trivial
theorem RVs.rep {xs : List V} {ds : List D} (q : RVs K ca F r xs ds) : ∀ n : Nat, RVs K ca F r (List.replicate n xs).flatten (List.replicate n ds).flatten
  | 0 => .nil
  | n + 1 => by
    rw [List.replicate_succ, List.replicate_succ, List.flatten_cons, List.flatten_cons]
    exact q.append (RVs.rep q n)
theorem RVs.ints : ∀ (ns : List Int), RVs K ca F r (ns.map V.int) (ns.map D.int)
  | [] => .nil
  | n :: ns => .cons (.int n) (RVs.ints ns)
theorem RVs.ints_inv : ∀ {xs : List V} {ns : List Int}, RVs K ca F r xs (ns.map D.int) → xs = ns.map V.int
  | _, [], .nil => rfl
  | _, _ :: _, .cons (.int _) t => by rw [List.map_cons, RVs.ints_inv t]
theorem RVs.strs : ∀ (ns : List Str), RVs K ca F r (ns.map V.str) (ns.map D.str)
  | [] => .nil
  | n :: ns => .cons (.str n) (RVs.strs ns)
theorem RVs.strs_inv : ∀ {xs : List V} {ns : List Str}, RVs K ca F r xs (ns.map D.str) → xs = ns.map V.str
  | _, [], .nil => rfl
  | _, _ :: _, .cons (.str _) t => by rw [List.map_cons, RVs.strs_inv t]
theorem RV.int_inv {v : V} {i : Int} : RV K ca F r v (.int i) → v = .int i | .int _ => rfl
theorem RV.str_inv {v : V} {i : Str} : RV K ca F r v (.str i) → v = .str i | .str _ => rfl
theorem RV.bl_inv {v : V} {i : Bool} : RV K ca F r v (.bl i) → v = .bl i | .bl _ => rfl
theorem RV.non_inv {v : V} : RV K ca F r v .non → v = .non | .non => rfl
end

/-! ### the store -/
def RM (K : PySem.W.Frag) (ca : CA) (F : Hp) (r : List Addr) (a : Addr) (o : Option HO) : MO → Prop
  | .lst ds => F a = none ∧ ∃ xs, o = some (.lst xs) ∧ RVs K ca F r xs ds
  | .obj c ds => F a = none ∧ ∃ dx xs, o = some (.ins (ca c) dx ((lay c).zip xs)) ∧ xs.length ≤ (lay c).length ∧ RVs K ca F r xs ds
  | .dic ks => F a = none ∧ ∃ kv : List (Key × V), o = some (.dK kv) ∧ kv.map (·.1) = ks.map (·.1) ∧ RVs K ca F r (kv.map (·.2)) (ks.map (·.2))
  | .fz ds => ∃ xs, F a = some (.lst xs) ∧ RVs K ca F r xs ds
/-- it may still change -/
def MO.live : MO → Bool
  | .fz _ => false
  | _ => true
theorem RM.free {K : PySem.W.Frag} {ca : CA} {F : Hp} {r : List Addr} {a : Addr} {o : Option HO} {m : MO} (h : RM K ca F r a o m) (l : m.live = true) : F a = none := by
  cases m with
  | lst ds => exact h.1
  | obj c ds => exact h.1
  | dic ks => exact h.1
  | fz ds => cases l
theorem RM.mono {K : PySem.W.Frag} {ca : CA} {F F' : Hp} {r r' : List Addr} (e : Ex F F') (p : r <+: r') {a : Addr} {o : Option HO} {m : MO} (hn : F a = none → F' a = none) (h : RM K ca F r a o m) : RM K ca F' r' a o m := by
  cases m with
  | lst ds => obtain ⟨h0, xs, h1, h2⟩ := h; exact ⟨hn h0, xs, h1, h2.mono e p⟩
  | obj c ds => obtain ⟨h0, dx, xs, h1, h2, h3⟩ := h; exact ⟨hn h0, dx, xs, h1, h2, h3.mono e p⟩
  | dic ks => obtain ⟨h0, kv, h1, h2, h3⟩ := h; exact ⟨hn h0, kv, h1, h2, h3.mono e p⟩
  | fz ds => obtain ⟨xs, h1, h2⟩ := h; exact ⟨xs, e _ _ h1, h2.mono e p⟩
theorem RM.fz_any {K : PySem.W.Frag} {ca : CA} {F : Hp} {r : List Addr} {a : Addr} {o o' : Option HO} {m : MO} (h : RM K ca F r a o m) (l : m.live = false) : RM K ca F r a o' m := by
  cases m with
  | fz ds => exact h
  | _ => cases l
/-- F: what stands still; r: where the owned objects stand; G: what others hold -/
structure SR (K : PySem.W.Frag) (ca : CA) (F : Hp) (r : List Addr) (G H : Hp) (st : Sto) : Prop where
  exF : Ex F H
  exG : Ex G H
  sep : ∀ a o, G a = some o → F a = none ∧ a ∉ r
  len : r.length = st.length
  nd : r.Nodup
  live : ∀ a ∈ r, ∃ o, H a = some o
  ob : ∀ (k : Nat) (m : MO) (a : Addr), st[k]? = some m → r[k]? = some a → RM K ca F r a (H a) m
def RE (K : PySem.W.Frag) (ca : CA) (F : Hp) (r : List Addr) (σ : L2.St) (env : Env) : Prop :=
  σ.length = env.length ∧ ∀ (i : Nat) (d : D), env[i]? = some (some d) → ∃ v, σ[i]? = some (some v) ∧ RV K ca F r v d
section
variable {K : PySem.W.Frag} {ca : CA} {F F' G H H' : Hp} {r r' : List Addr} {σ : L2.St} {env : Env} {st : Sto}
theorem RE.mono (e : Ex F F') (p : r <+: r') (h : RE K ca F r σ env) : RE K ca F' r' σ env :=
  ⟨h.1, fun i d hd => let ⟨v, h1, h2⟩ := h.2 i d hd; ⟨v, h1, h2.mono e p⟩⟩
theorem RE.set (h : RE K ca F r σ env) {v : V} {d : D} (q : RV K ca F r v d) (i : Nat) : RE K ca F r (σ.set i (some v)) (env.set i (some d)) := by
  refine ⟨by rw [List.length_set, List.length_set]; exact h.1, fun j e hd => ?_⟩
  by_cases hij : i = j
  · subst hij
    by_cases hi : i < env.length
    · rw [List.getElem?_set_self hi] at hd
      cases hd
      exact ⟨v, by rw [List.getElem?_set_self (by rw [h.1]; exact hi)], q⟩
    · rw [List.getElem?_eq_none (by rw [List.length_set]; omega)] at hd
      cases hd
  · rw [List.getElem?_set_ne hij] at hd
    obtain ⟨v', h1, h2⟩ := h.2 j e hd
    exact ⟨v', by rw [List.getElem?_set_ne hij]; exact h1, h2⟩
theorem RE.unset (h : RE K ca F r σ env) (i : Nat) (x : Option V) : RE K ca F r (σ.set i x) (env.set i none) := by
  refine ⟨by rw [List.length_set, List.length_set]; exact h.1, fun j e hd => ?_⟩
  by_cases hij : i = j
  · subst hij
    by_cases hi : i < env.length
    · rw [List.getElem?_set_self hi] at hd
      cases hd
    · rw [List.getElem?_eq_none (by rw [List.length_set]; omega)] at hd
      cases hd
  · rw [List.getElem?_set_ne hij] at hd
    obtain ⟨v', h1, h2⟩ := h.2 j e hd
    exact ⟨v', by rw [List.getElem?_set_ne hij]; exact h1, h2⟩
theorem ex_none (e : Ex F H) {p : Addr} (hp : H p = none) : F p = none := Evl.fresh_back e hp
theorem SR.fresh_r (S : SR K ca F r G H st) {p : Addr} (hp : H p = none) : p ∉ r := fun hr => by
  obtain ⟨o, e⟩ := S.live p hr
  rw [hp] at e; cases e
theorem SR.fresh_G (S : SR K ca F r G H st) {p : Addr} (hp : H p = none) : G p = none := ex_none S.exG hp
theorem SR.fresh_F (S : SR K ca F r G H st) {p : Addr} (hp : H p = none) : F p = none := ex_none S.exF hp
/-- p: known to no one -/
structure Free (F : Hp) (r : List Addr) (G : Hp) (p : Addr) : Prop where
  f : F p = none
  r : p ∉ r
  g : G p = none
theorem SR.free (S : SR K ca F r G H st) {p : Addr} (hp : H p = none) : Free F r G p := ⟨S.fresh_F hp, S.fresh_r hp, S.fresh_G hp⟩
/-- something that no one knows is changed -/
theorem SR.upd (S : SR K ca F r G H st) {p : Addr} (o : HO) (f : Free F r G p) : SR K ca F r G (L2.upd H p o) st where
  exF := fun a u h => by rw [upd_ne (ne_of_none h f.f)]; exact S.exF a u h
  exG := fun a u h => by rw [upd_ne (ne_of_none h f.g)]; exact S.exG a u h
  sep := S.sep
  len := S.len
  nd := S.nd
  live := fun a ha => by
    have : a ≠ p := fun e => f.r (e ▸ ha)
    rw [upd_ne this]; exact S.live a ha
  ob := fun k m a h1 h2 => by
    have : a ≠ p := fun e => f.r (e ▸ List.mem_of_getElem? h2)
    rw [upd_ne this]
    exact S.ob k m a h1 h2
/-- what no one knows stands still from now on -/
theorem SR.freeze (S : SR K ca F r G H st) {p : Addr} {o : HO} (f : Free F r G p) (hp : H p = some o) : SR K ca (L2.upd F p o) r G H st where
  exF := fun a u h => by
    by_cases e : a = p
    · subst e; rw [upd_same] at h; cases h; exact hp
    · rw [upd_ne e] at h; exact S.exF a u h
  exG := S.exG
  sep := fun a u h => ⟨by rw [upd_ne (ne_of_none h f.g)]; exact (S.sep a u h).1, (S.sep a u h).2⟩
  len := S.len
  nd := S.nd
  live := S.live
  ob := fun k m a h1 h2 => by
    have : a ≠ p := fun e => f.r (e ▸ List.mem_of_getElem? h2)
    exact (S.ob k m a h1 h2).mono (Evl.Ex.new f.f) (List.prefix_refl _) fun h => by rw [upd_ne this]; exact h
theorem SR.newF (S : SR K ca F r G H st) {p : Addr} {o : HO} (hp : H p = none) : SR K ca (L2.upd F p o) r G (L2.upd H p o) st :=
  (S.upd o (S.free hp)).freeze (S.free hp) upd_same
/-- what no one knows is owned from now on -/
theorem SR.owned (S : SR K ca F r G H st) {p : Addr} {o : HO} (f : Free F r G p) (hp : H p = some o) {m : MO} (q : RM K ca F (r ++ [p]) p (some o) m) : SR K ca F (r ++ [p]) G H (st ++ [m]) where
  exF := S.exF
  exG := S.exG
  sep := fun a u h => ⟨(S.sep a u h).1, fun hr => by
    rcases List.mem_append.mp hr with hr | hr
    · exact (S.sep a u h).2 hr
    · have e : a = p := by simpa using hr
      subst e
      rw [f.g] at h; cases h⟩
  len := by rw [List.length_append, List.length_append, S.len]; rfl
  nd := List.nodup_append.mpr ⟨S.nd, by simp, fun a ha b hb e => by
    have e2 : b = p := by simpa using hb
    exact f.r (e2 ▸ e ▸ ha)⟩
  live := fun a ha => by
    rcases List.mem_append.mp ha with ha | ha
    · exact S.live a ha
    · have e : a = p := by simpa using ha
      subst e
      exact ⟨o, hp⟩
  ob := fun k m' a h1 h2 => by
    by_cases hk : k < st.length
    · rw [List.getElem?_append_left hk] at h1
      rw [List.getElem?_append_left (by rw [S.len]; exact hk)] at h2
      exact (S.ob k m' a h1 h2).mono (Evl.Ex.refl _) (List.prefix_append _ _) fun h => h
    · have hk2 : k = st.length := by
        have := (List.getElem?_eq_some_iff.mp h1).1
        rw [List.length_append] at this
        simp at this
        omega
      subst hk2
      rw [List.getElem?_append_right (Nat.le_refl _)] at h1
      rw [List.getElem?_append_right (by rw [S.len]; exact Nat.le_refl _)] at h2
      simp at h1
      rw [S.len] at h2
      simp at h2
      subst h1 h2
      rw [hp]
      exact q
/-- an owned object is changed -/
theorem SR.put (S : SR K ca F r G H st) {k : Nat} {m m' : MO} {a : Addr} {o : HO} (h1 : st[k]? = some m) (hd : m.live = true) (h2 : r[k]? = some a) (q : RM K ca F r a (some o) m') : SR K ca F r G (L2.upd H a o) (st.set k m') where
  exF := fun b u h => by rw [upd_ne (ne_of_none h ((S.ob k m a h1 h2).free hd))]; exact S.exF b u h
  exG := fun b u h => by
    have : b ≠ a := fun e => (S.sep b u h).2 (e ▸ List.mem_of_getElem? h2)
    rw [upd_ne this]; exact S.exG b u h
  sep := S.sep
  len := by rw [List.length_set]; exact S.len
  nd := S.nd
  live := fun b hb => by
    by_cases e : b = a
    · subst e; exact ⟨o, upd_same⟩
    · rw [upd_ne e]; exact S.live b hb
  ob := fun j n b g1 g2 => by
    by_cases e : k = j
    · subst e
      rw [h2] at g2; cases g2
      rw [List.getElem?_set_self (List.getElem?_eq_some_iff.mp h1).1] at g1
      cases g1
      rw [upd_same]
      exact q
    · rw [List.getElem?_set_ne e] at g1
      have : b ≠ a := fun e2 => e (by
        subst e2
        exact nd_ix S.nd h2 g2)
      rw [upd_ne this]
      exact S.ob j n b g1 g2
/-- an owned list stands still from now on -/
theorem SR.still (S : SR K ca F r G H st) {k : Nat} {ds : List D} {a : Addr} (h1 : st[k]? = some (.lst ds)) (h2 : r[k]? = some a) : ∃ xs, H a = some (.lst xs) ∧ RVs K ca F r xs ds ∧ SR K ca (L2.upd F a (.lst xs)) r G H (st.set k (.fz ds)) ∧ Ex F (L2.upd F a (.lst xs)) := by
  obtain ⟨hF, xs, h3, q⟩ := S.ob k _ a h1 h2
  have eF : Ex F (L2.upd F a (.lst xs)) := Evl.Ex.new hF
  refine ⟨xs, h3, q, ⟨fun b u h => ?_, S.exG, fun b u h => ?_, by rw [List.length_set]; exact S.len, S.nd, S.live, fun j n b g1 g2 => ?_⟩, eF⟩
  · by_cases e : b = a
    · subst e; rw [upd_same] at h; cases h; exact h3
    · rw [upd_ne e] at h; exact S.exF b u h
  · have : b ≠ a := fun e => (S.sep b u h).2 (e ▸ List.mem_of_getElem? h2)
    exact ⟨by rw [upd_ne this]; exact (S.sep b u h).1, (S.sep b u h).2⟩
  · by_cases e : k = j
    · subst e
      rw [List.getElem?_set_self (List.getElem?_eq_some_iff.mp h1).1] at g1
      cases g1
      rw [h2] at g2; cases g2
      exact ⟨xs, upd_same, q.mono eF (List.prefix_refl _)⟩
    · rw [List.getElem?_set_ne e] at g1
      have : b ≠ a := fun e2 => e (by
        subst e2
        exact nd_ix S.nd h2 g2)
      exact (S.ob j n b g1 g2).mono eF (List.prefix_refl _) fun h => by rw [upd_ne this]; exact h
/-- others hold p for a while -/
theorem SR.hold (S : SR K ca F r G H st) {p : Addr} {o : HO} (f : Free F r G p) (hp : H p = some o) : SR K ca F r (L2.upd G p o) H st where
  exF := S.exF
  exG := fun a u h => by
    by_cases e : a = p
    · subst e; rw [upd_same] at h; cases h; exact hp
    · rw [upd_ne e] at h; exact S.exG a u h
  sep := fun a u h => by
    by_cases e : a = p
    · subst e; exact ⟨f.f, f.r⟩
    · rw [upd_ne e] at h; exact S.sep a u h
  len := S.len
  nd := S.nd
  live := S.live
  ob := S.ob
theorem SR.unhold {p : Addr} {o : HO} (S : SR K ca F r (L2.upd G p o) H st) (hg : G p = none) : SR K ca F r G H st ∧ Free F r G p ∧ H p = some o :=
  ⟨⟨S.exF, fun a u h => S.exG a u (by rw [upd_ne (ne_of_none h hg)]; exact h), fun a u h => S.sep a u (by rw [upd_ne (ne_of_none h hg)]; exact h), S.len, S.nd, S.live, S.ob⟩,
    ⟨(S.sep p o upd_same).1, (S.sep p o upd_same).2, hg⟩, S.exG p o upd_same⟩
end

/-! ### handles below n; the store cut back -/
mutual
def D.clo (n : Nat) : D → Bool
  | .own k => decide (k < n)
  | .lst ds => cloAll n ds
  | .tup ds => cloAll n ds
  | .obj _ ds => cloAll n ds
  | .non => true
  | .bl _ => true
  | .int _ => true
  | .str _ => true
  | .scr _ => true
  | .adr _ => true
def cloAll (n : Nat) : List D → Bool
  | [] => true
  | d :: ds => d.clo n && cloAll n ds
end
def MO.clo (n : Nat) : MO → Bool
  | .lst ds => cloAll n ds
  | .obj _ ds => cloAll n ds
  | .dic ks => cloAll n (ks.map (·.2))
  | .fz ds => cloAll n ds
section
variable {K : PySem.W.Frag} {ca : CA} {F F' G H H' : Hp} {r r' : List Addr}
theorem lt_of_get {l : List Addr} {k : Nat} {a : Addr} (h : l[k]? = some a) : k < l.length := (List.getElem?_eq_some_iff.mp h).1
mutual
theorem RV.clo : ∀ {v : V} {d : D}, RV K ca F r v d → d.clo r.length = true
  | _, _, .non => by unfold D.clo; rfl
  | _, _, .bl b => by unfold D.clo; rfl
  | _, _, .int i => by unfold D.clo; rfl
  | _, _, .str x => by unfold D.clo; rfl
  | _, _, .lst h q => by unfold D.clo; exact RVs.clo q
  | _, _, .tup h q => by unfold D.clo; exact RVs.clo q
  | _, _, .obj h hl q => by unfold D.clo; exact RVs.clo q
  | _, _, .scr h => by unfold D.clo; rfl
  | _, _, .own h => by unfold D.clo; exact decide_eq_true (lt_of_get h)
  | _, _, .adr _ => by unfold D.clo; rfl
theorem RVs.clo : ∀ {vs : List V} {ds : List D}, RVs K ca F r vs ds → cloAll r.length ds = true
  | _, _, .nil => by unfold cloAll; rfl
  | _, _, .cons h t => by unfold cloAll; rw [RV.clo h, RVs.clo t]; rfl
end
theorem pre_back {l l' : List Addr} (h : l <+: l') {k : Nat} {a : Addr} (e : l'[k]? = some a) (hk : k < l.length) : l[k]? = some a := by
  obtain ⟨t, rfl⟩ := h
  rw [List.getElem?_append_left hk] at e
  exact e
mutual
theorem RV.back (p : r <+: r') : ∀ {v : V} {d : D}, RV K ca F r' v d → d.clo r.length = true → RV K ca F r v d
  | _, _, .non, _ => .non
  | _, _, .bl b, _ => .bl b
  | _, _, .int i, _ => .int i
  | _, _, .str x, _ => .str x
  | _, _, .lst h q, c => .lst h (RVs.back p q (by unfold D.clo at c; exact c))
  | _, _, .tup h q, c => .tup h (RVs.back p q (by unfold D.clo at c; exact c))
  | _, _, .obj h hl q, c => .obj h hl (RVs.back p q (by unfold D.clo at c; exact c))
  | _, _, .scr h, _ => .scr h
  | _, _, .own h, c => .own (pre_back p h (by unfold D.clo at c; exact of_decide_eq_true c))
  | _, _, .adr a, _ => .adr a
theorem RVs.back (p : r <+: r') : ∀ {vs : List V} {ds : List D}, RVs K ca F r' vs ds → cloAll r.length ds = true → RVs K ca F r vs ds
  | _, _, .nil, _ => .nil
  | _, _, .cons h t, c => by
    unfold cloAll at c
    rw [Bool.and_eq_true] at c
    exact .cons (RV.back p h c.1) (RVs.back p t c.2)
end
theorem RM.clo {a : Addr} {o : Option HO} {m : MO} (h : RM K ca F r a o m) : m.clo r.length = true := by
  cases m with
  | lst ds => obtain ⟨h0, xs, h1, h2⟩ := h; exact h2.clo
  | obj c ds => obtain ⟨h0, dx, xs, h1, h2, h3⟩ := h; exact h3.clo
  | dic ks => obtain ⟨h0, kv, h1, h2, h3⟩ := h; exact h3.clo
  | fz ds => obtain ⟨xs, h1, h2⟩ := h; exact h2.clo
theorem RM.back (p : r <+: r') {a : Addr} {o : Option HO} {m : MO} (h : RM K ca F r' a o m) (c : m.clo r.length = true) : RM K ca F r a o m := by
  cases m with
  | lst ds => obtain ⟨h0, xs, h1, h2⟩ := h; exact ⟨h0, xs, h1, h2.back p c⟩
  | obj cc ds => obtain ⟨h0, dx, xs, h1, h2, h3⟩ := h; exact ⟨h0, dx, xs, h1, h2, h3.back p c⟩
  | dic ks => obtain ⟨h0, kv, h1, h2, h3⟩ := h; exact ⟨h0, kv, h1, h2, h3.back p c⟩
  | fz ds => obtain ⟨xs, h1, h2⟩ := h; exact ⟨xs, h1, h2.back p c⟩
/-- what was there ahead of a call is as it was, or tells of nothing new -/
def tame (st st' : Sto) : Prop := st.length ≤ st'.length ∧ ∀ (k : Nat), k < st.length → st'[k]? = st[k]? ∨ ∃ m, st'[k]? = some m ∧ m.clo st.length = true
theorem SR.cut {st st' : Sto} (S0 : SR K ca F r G H st) (S : SR K ca F' r' G H' st') (p : r <+: r') (t : tame st st') : SR K ca F' r G H' (st'.take st.length) where
  exF := S.exF
  exG := S.exG
  sep := fun a o h => ⟨(S.sep a o h).1, fun hr => (S.sep a o h).2 (p.subset hr)⟩
  len := by rw [List.length_take, S0.len]; have := t.1; omega
  nd := S0.nd
  live := fun a ha => S.live a (p.subset ha)
  ob := fun k m a h1 h2 => by
    have hk : k < st.length := by rw [← S0.len]; exact lt_of_get h2
    rw [List.getElem?_take_of_lt hk] at h1
    refine (S.ob k m a h1 (pre_get p h2)).back p ?_
    rcases t.2 k hk with e | ⟨m', e, c⟩
    · rw [h1] at e
      exact (S0.ob k m a e.symm h2).clo
    · rw [h1] at e; cases e
      rw [S0.len]; exact c
end
end MX
set_option maxHeartbeats 1000000
/-! MX, part 2: what it is that a reading follows a mirror; the judgements; the rules of expressions and statements. -/
namespace MX
open PySem L2
abbrev EM := Env → Sto → Res D
abbrev TM := Env → Sto → Res Bool
abbrev AM := Env → Sto → Res (List D)
abbrev OM := Env → Sto → Res (Option Int)
abbrev SM := Env → Sto → SRes
abbrev GM := D → Env → Option Env
abbrev FM := List D → Sto → Res D

section
variable (K : PySem.W.Frag) (ca : CA)
def RX (F : Hp) (r : List Addr) (H : Hp) (cls : Value) (dx : Option Addr) (e : Exc) : Prop :=
  cls = .ref (ca e.c) ∧ match e.at_ with
    | none => dx = none
    | some d => ∃ q v, dx = some q ∧ H q = some (.xd [("at", v)]) ∧ RV K ca F r v d
def Post (W : WX) (σ : L2.St) (F : Hp) (r : List Addr) (G : Hp) {α : Type} (x : Res α) (P : Hp → List Addr → Hp → Sto → α → Prop) : Prop := match x with
  | .ok a st' => ∀ F' r' H', Ex F F' → r <+: r' → SR K ca F' r' G H' st' → P F' r' H' st' a
  | .er e st' => ∀ F' r' H' cls dx, Ex F F' → r <+: r' → SR K ca F' r' G H' st' → RX K ca F' r' H' cls dx e → W cls dx σ H'
  | .bad => False
def PostS (W : WX) (F : Hp) (r : List Addr) (G : Hp) (x : SRes) (D : Ends) : Prop := match x with
  | .nx env st' => ∀ F' r' H' σ', Ex F F' → r <+: r' → SR K ca F' r' G H' st' → RE K ca F' r' σ' env → D.nx σ' H'
  | .rt d st' => ∀ F' r' H' v, Ex F F' → r <+: r' → SR K ca F' r' G H' st' → RV K ca F' r' v d → D.rt v H'
  | .bk env st' => ∀ F' r' H' σ', Ex F F' → r <+: r' → SR K ca F' r' G H' st' → RE K ca F' r' σ' env → D.bk σ' H'
  | .ct env st' => ∀ F' r' H' σ', Ex F F' → r <+: r' → SR K ca F' r' G H' st' → RE K ca F' r' σ' env → D.ct σ' H'
  | .er e env st' => ∀ F' r' H' σ' cls dx, Ex F F' → r <+: r' → SR K ca F' r' G H' st' → RE K ca F' r' σ' env → RX K ca F' r' H' cls dx e → W cls dx σ' H'
  | .bad => False
/-- what is wanted of a value -/
abbrev WV (Q : VK) : Hp → List Addr → Hp → Sto → D → Prop := fun F r H _ d => ∀ v, RV K ca F r v d → Q v H
def SimE (W : WX) (te : TE) (f : EM) : Prop := ∀ F r G σ H env st Q, SR K ca F r G H st → RE K ca F r σ env → Post K ca W σ F r G (f env st) (WV K ca Q) → te σ H Q
def SimT (W : WX) (te : TT) (f : TM) : Prop := ∀ F r G σ H env st Q, SR K ca F r G H st → RE K ca F r σ env → Post K ca W σ F r G (f env st) (fun _ _ H' _ b => Q b H') → te σ H Q
def SimA (W : WX) (te : TA) (f : AM) : Prop := ∀ F r G σ H env st Q, SR K ca F r G H st → RE K ca F r σ env → Post K ca W σ F r G (f env st) (fun F' r' H' _ ds => ∀ vs, RVs K ca F' r' vs ds → Q vs H') → te σ H Q
/-- a new list, known to no one -/
def SimL (W : WX) (te : TE) (f : AM) : Prop := ∀ F r G σ H env st Q, SR K ca F r G H st → RE K ca F r σ env →
  Post K ca W σ F r G (f env st) (fun F' r' H' _ ds => ∀ p xs, H' p = some (.lst xs) → Free F' r' G p → RVs K ca F' r' xs ds → Q (.ref p) H') → te σ H Q
def SimO (W : WX) (te : TO) (f : OM) : Prop := ∀ F r G σ H env st Q, SR K ca F r G H st → RE K ca F r σ env → Post K ca W σ F r G (f env st) (fun _ _ H' _ b => Q b H') → te σ H Q
def Wp (l : List Nat) (σ σ' : L2.St) : Prop := ∀ vs : List Nat, (∀ i ∈ l, i ∈ vs) → wipe σ' vs = wipe σ vs
def SimG (l : List Nat) (g : TG) (f : GM) : Prop := ∀ F r G σ H env st v d env' Q, SR K ca F r G H st → RE K ca F r σ env → RV K ca F r v d → f d env = some env' → (∀ σ', RE K ca F r σ' env' → Wp l σ σ' → Q σ' H) → g v σ H Q
def SimGs (l : List Nat) (g : TGs) (f : List D → Env → Option Env) : Prop := ∀ F r G σ H env st vs ds env' Q, SR K ca F r G H st → RE K ca F r σ env → RVs K ca F r vs ds → f ds env = some env' → (∀ σ', RE K ca F r σ' env' → Wp l σ σ' → Q σ' H) → g vs σ H Q
def SimS (W : WX) (ts : TS) (f : SM) : Prop := ∀ F r G σ H env st D, SR K ca F r G H st → RE K ca F r σ env → PostS K ca W F r G (f env st) D → ts D σ H
end
section
variable {K : PySem.W.Frag} {ca : CA} {W : WX} {σ : L2.St} {F F1 G H : Hp} {r r1 : List Addr} {α β : Type}
theorem pre_trans {a b c : List Addr} (h : a <+: b) (q : b <+: c) : a <+: c := h.trans q
theorem Post.mono {x : Res α} {P : Hp → List Addr → Hp → Sto → α → Prop} (e : Ex F F1) (p : r <+: r1) (h : Post K ca W σ F r G x P) : Post K ca W σ F1 r1 G x P := by
  cases x with
  | ok a st => exact fun F' r' H' e' p' s' => h F' r' H' (e.trans e') (p.trans p') s'
  | er x st => exact fun F' r' H' cls dx e' p' s' => h F' r' H' cls dx (e.trans e') (p.trans p') s'
  | bad => exact h
theorem Post.imp {x : Res α} {P P' : Hp → List Addr → Hp → Sto → α → Prop} (h : Post K ca W σ F r G x P) (q : ∀ F' r' H' st' a, Ex F F' → r <+: r' → SR K ca F' r' G H' st' → P F' r' H' st' a → P' F' r' H' st' a) : Post K ca W σ F r G x P' := by
  cases x with
  | ok a st => exact fun F' r' H' e' p' s' => q F' r' H' st a e' p' s' (h F' r' H' e' p' s')
  | er x st => exact h
  | bad => exact h
theorem Post.bind {x : Res α} {g : α → Sto → Res β} {P : Hp → List Addr → Hp → Sto → β → Prop} (h : Post K ca W σ F r G (x.bind g) P) : Post K ca W σ F r G x (fun F' r' _ st' a => Post K ca W σ F' r' G (g a st') P) := by
  cases x with
  | ok a st => exact fun F' r' H' e' p' s' => Post.mono e' p' h
  | er x st => exact h
  | bad => exact h
theorem PostS.mono {x : SRes} {D : Ends} (e : Ex F F1) (p : r <+: r1) (h : PostS K ca W F r G x D) : PostS K ca W F1 r1 G x D := by
  cases x with
  | nx a st => exact fun F' r' H' σ' e' p' s' => h F' r' H' σ' (e.trans e') (p.trans p') s'
  | rt a st => exact fun F' r' H' σ' e' p' s' => h F' r' H' σ' (e.trans e') (p.trans p') s'
  | bk a st => exact fun F' r' H' σ' e' p' s' => h F' r' H' σ' (e.trans e') (p.trans p') s'
  | ct a st => exact fun F' r' H' σ' e' p' s' => h F' r' H' σ' (e.trans e') (p.trans p') s'
  | er x a st => exact fun F' r' H' σ' cls dx e' p' s' => h F' r' H' σ' cls dx (e.trans e') (p.trans p') s'
  | bad => exact h
def Res.toS {α : Type} (x : Res α) (env : Env) (g : α → Sto → SRes) : SRes := match x with
  | .ok a s => g a s
  | .er e s => .er e env s
  | .bad => .bad
@[simp] theorem Res.toS_ok (a : α) (s : Sto) (env : Env) (g : α → Sto → SRes) : (Res.ok a s).toS env g = g a s := rfl
@[simp] theorem Res.toS_er (a : Exc) (s : Sto) (env : Env) (g : α → Sto → SRes) : (Res.er a s : Res α).toS env g = .er a env s := rfl
@[simp] theorem Res.toS_bad (env : Env) (g : α → Sto → SRes) : (Res.bad : Res α).toS env g = .bad := rfl
theorem PostS.ofE {x : Res α} {env : Env} {g : α → Sto → SRes} {D : Ends} (hE : RE K ca F r σ env) (h : PostS K ca W F r G (x.toS env g) D) : Post K ca W σ F r G x (fun F' r' _ st' a => PostS K ca W F' r' G (g a st') D) := by
  cases x with
  | ok a st => exact fun F' r' H' e' p' s' => PostS.mono e' p' h
  | er x st => exact fun F' r' H' cls dx e' p' s' q => h F' r' H' σ cls dx e' p' s' (hE.mono e' p') q
  | bad => exact h
def SRes.seq (x : SRes) (g : SM) : SRes := match x with
  | .nx e s => g e s
  | y => y
@[simp] theorem SRes.seq_nx (e : Env) (s : Sto) (g : SM) : (SRes.nx e s).seq g = g e s := rfl
@[simp] theorem SRes.seq_rt (e : D) (s : Sto) (g : SM) : (SRes.rt e s).seq g = .rt e s := rfl
@[simp] theorem SRes.seq_bk (e : Env) (s : Sto) (g : SM) : (SRes.bk e s).seq g = .bk e s := rfl
@[simp] theorem SRes.seq_ct (e : Env) (s : Sto) (g : SM) : (SRes.ct e s).seq g = .ct e s := rfl
@[simp] theorem SRes.seq_er (x : Exc) (e : Env) (s : Sto) (g : SM) : (SRes.er x e s).seq g = .er x e s := rfl
@[simp] theorem SRes.seq_bad (g : SM) : SRes.bad.seq g = .bad := rfl
end

/-! ### the judgements: a piece of syntax and its mirror -/
structure ME (X : Cx) (ca : CA) (W : WX) (e : Expr) (f : EM) : Prop where
  h : ∃ t, PE X e t ∧ SimE X.K ca W t f
structure ML (X : Cx) (ca : CA) (W : WX) (e : Expr) (f : AM) : Prop where
  h : ∃ t, PE X e t ∧ SimL X.K ca W t f
structure MT (X : Cx) (ca : CA) (W : WX) (e : Expr) (f : TM) : Prop where
  h : ∃ t, PT X e t ∧ SimT X.K ca W t f
structure MW (X : Cx) (ca : CA) (W : WX) (e : Expr) (f : TM) : Prop where
  h : ∃ t, PW X e t ∧ SimT X.K ca W t f
structure MA (X : Cx) (ca : CA) (W : WX) (e : List Expr) (f : AM) : Prop where
  h : ∃ t, PA X e t ∧ SimA X.K ca W t f
structure MPt (X : Cx) (ca : CA) (W : WX) (e : Option Expr) (f : OM) : Prop where
  h : ∃ t, PO X e t ∧ SimO X.K ca W t f
structure MG (X : Cx) (ca : CA) (l : List Nat) (e : Expr) (f : GM) : Prop where
  h : ∃ t, PG X e t ∧ SimG X.K ca l t f
structure MGs (X : Cx) (ca : CA) (l : List Nat) (e : List Expr) (f : List D → Env → Option Env) : Prop where
  h : ∃ t, PGs X e t ∧ SimGs X.K ca l t f
structure MS (X : Cx) (ca : CA) (W : WX) (s : Stmt) (f : SM) : Prop where
  h : ∃ t, PS X s t ∧ SimS X.K ca W t f
structure MSs (X : Cx) (ca : CA) (W : WX) (s : List Stmt) (f : SM) : Prop where
  h : ∃ t, PSs X s t ∧ SimS X.K ca W t f

/-! ### operations on values -/
def SimR (K : PySem.W.Frag) (ca : CA) (op : D → D → Sto → Option D) (q : R2) : Prop := ∀ F r G H st x y d e z Q, SR K ca F r G H st → RV K ca F r x d → RV K ca F r y e → op d e st = some z →
  (∀ F' H' v, Ex F F' → SR K ca F' r G H' st → RV K ca F' r v z → Q v H') → q x y H Q
structure MOp (X : Cx) (ca : CA) (f : Value → Value → Sem Value) (op : D → D → Sto → Option D) : Prop where
  h : ∃ q, OpR X f q ∧ SimR X.K ca op q
/-- a call of a built-in: the store stays -/
def SimC (K : PySem.W.Frag) (ca : CA) (g : List D → Sto → Option D) (q : List V → Hp → VK → Prop) : Prop := ∀ F r G H st xs ds z Q, SR K ca F r G H st → RVs K ca F r xs ds → g ds st = some z →
  (∀ F' H' v, Ex F F' → SR K ca F' r G H' st → RV K ca F' r v z → Q v H') → q xs H Q
def SimCL (K : PySem.W.Frag) (ca : CA) (g : List D → Sto → Option (List D)) (q : List V → Hp → VK → Prop) : Prop := ∀ F r G H st xs ds zs Q, SR K ca F r G H st → RVs K ca F r xs ds → g ds st = some zs →
  (∀ H' p ys, SR K ca F r G H' st → H' p = some (.lst ys) → Free F r G p → RVs K ca F r ys zs → Q (.ref p) H') → q xs H Q
/-- a method of a built-in type: the store may change -/
def SimM (K : PySem.W.Frag) (ca : CA) (T : String) (g : D → List D → Sto → Option (D × Sto)) (q : V → List V → Hp → VK → Prop) : Prop := ∀ F r G H st x xs d ds z st' Q, SR K ca F r G H st → RV K ca F r x d → RVs K ca F r xs ds → g d ds st = some (z, st') →
  (∀ F' H' v, Ex F F' → SR K ca F' r G H' st' → RV K ca F' r v z → Q v H') → q x xs H Q
def SimML (K : PySem.W.Frag) (ca : CA) (T : String) (g : D → List D → Sto → Option (List D)) (q : V → List V → Hp → VK → Prop) : Prop := ∀ F r G H st x xs d ds zs Q, SR K ca F r G H st → RV K ca F r x d → RVs K ca F r xs ds → g d ds st = some zs →
  (∀ H' p ys, SR K ca F r G H' st → H' p = some (.lst ys) → Free F r G p → RVs K ca F r ys zs → Q (.ref p) H') → q x xs H Q

/-- the ends of mirrors -/
def Res.of (x : Option D) (s : Sto) : Res D := match x with
  | some d => .ok d s
  | none => .bad
@[simp] theorem Res.of_some (d : D) (s : Sto) : Res.of (some d) s = .ok d s := rfl
@[simp] theorem Res.of_none (s : Sto) : Res.of none s = .bad := rfl
def Res.ofL (x : Option (List D)) (s : Sto) : Res (List D) := match x with
  | some d => .ok d s
  | none => .bad
@[simp] theorem Res.ofL_some (d : List D) (s : Sto) : Res.ofL (some d) s = .ok d s := rfl
@[simp] theorem Res.ofL_none (s : Sto) : Res.ofL none s = .bad := rfl
def Res.ofM (x : Option (D × Sto)) : Res D := match x with
  | some (d, s) => .ok d s
  | none => .bad
@[simp] theorem Res.ofM_some (d : D) (s : Sto) : Res.ofM (some (d, s)) = .ok d s := rfl
@[simp] theorem Res.ofM_none : Res.ofM none = .bad := rfl
def Res.ofB (x : Option Bool) (s : Sto) : Res Bool := match x with
  | some d => .ok d s
  | none => .bad
@[simp] theorem Res.ofB_some (d : Bool) (s : Sto) : Res.ofB (some d) s = .ok d s := rfl
@[simp] theorem Res.ofB_none (s : Sto) : Res.ofB none s = .bad := rfl

/-! ### names, constants, operators -/
def vM (i : Nat) : EM := fun env st => match env[i]? with
  | some (some d) => .ok d st
  | _ => .bad
def cM (d : D) : EM := fun _ st => .ok d st
def opM (op : D → D → Sto → Option D) (f g : EM) : EM := fun env st => (f env st).bind fun a s => (g env s).bind fun b s => Res.of (op a b s) s
section
variable {X : Cx} {ca : CA} {W : WX} {a b c e : Expr} {f g k : EM} {pos : Pos}
theorem me_v {i : Nat} {x : Str} {pos : Pos} (hN : X.N[i]? = some x := by rfl) (hv : Vis X.env.scope x := by first | exact Or.inl rfl | exact Or.inr (Or.inl rfl) | exact Or.inr (Or.inr rfl)) (hd : (x == ("__debug__" : Str)) = false := by decide) (hcd : (x == ("__classdict__" : Str)) = false := by decide) : ME X ca W (.Name x pos) (vM i) :=
  ⟨_, pe_var (i := i) hN hv hd hcd, fun F r G σ H env st Q S E h => by
    unfold vM at h
    split at h
    · rename_i d hd
      obtain ⟨v, h1, h2⟩ := E.2 i d hd
      exact ⟨v, h1, h F r H (Evl.Ex.refl _) (List.prefix_refl _) S v h2⟩
    · exact h.elim⟩
theorem sim_c {K : PySem.W.Frag} {v : V} {d : D} (q : ∀ F r, RV K ca F r v d) : SimE K ca W (tC v) (cM d) := fun F r G σ H env st Q S E h => h F r H (Evl.Ex.refl _) (List.prefix_refl _) S v (q F r)
theorem me_int {i : Int} {j : Nat} : ME X ca W (.Constant (.int i) j pos) (cM (.int i)) := ⟨_, pe_int, sim_c fun _ _ => .int i⟩
theorem me_bl {i : Bool} {j : Nat} : ME X ca W (.Constant (.bool i) j pos) (cM (.bl i)) := ⟨_, pe_bl, sim_c fun _ _ => .bl i⟩
theorem me_non {j : Nat} : ME X ca W (.Constant .none j pos) (cM .non) := ⟨_, pe_non, sim_c fun _ _ => .non⟩
theorem me_str {i : Str} {j : Nat} : ME X ca W (.Constant (.str i) j pos) (cM (.str i)) := ⟨_, pe_str, sim_c fun _ _ => .str i⟩
/-- a module's constant -/
theorem me_glob {x : Str} {v : V} {u : Value} {d : D} (hm : X.mg x = some u) (q : RelV v u) (q2 : ∀ F r, RV X.K ca F r v d) (hg : Gl X x := by rfl) (hd : (x == ("__debug__" : Str)) = false := by decide) : ME X ca W (.Name x pos) (cM d) := ⟨_, pe_glob hg hm q hd, sim_c q2⟩
theorem sim_op {K : PySem.W.Frag} {q : R2} {op : D → D → Sto → Option D} {ta tb : TE} (hq : SimR K ca op q) (ha : SimE K ca W ta f) (hb : SimE K ca W tb g) : SimE K ca W (tOp q ta tb) (opM op f g) := fun F r G σ H env st Q S E h => by
  refine ha F r G σ H env st _ S E (Post.imp (Post.bind h) fun F1 r1 H1 s1 d e1 p1 S1 h1 v rv => ?_)
  refine hb F1 r1 G σ H1 env s1 _ S1 (E.mono e1 p1) (Post.imp (Post.bind h1) fun F2 r2 H2 s2 d2 e2 p2 S2 h2 v2 rv2 => ?_)
  cases z : op d d2 s2 with
  | none => rw [z] at h2; exact h2.elim
  | some zz =>
    rw [z] at h2
    exact hq F2 r2 G H2 s2 v v2 d d2 zz _ S2 (rv.mono e2 p2) rv2 z fun F' H' v' e' S' rv' => h2 F' r2 H' e' (List.prefix_refl _) S' v' rv'
theorem me_op {op : Operator} {m : D → D → Sto → Option D} (ho : MOp X ca (binaryOp op) m) (ha : ME X ca W a f) (hb : ME X ca W b g) : ME X ca W (.BinOp a op b pos) (opM m f g) := by
  obtain ⟨q, h1, h2⟩ := ho
  obtain ⟨ta, a1, a2⟩ := ha
  obtain ⟨tb, b1, b2⟩ := hb
  exact ⟨_, pe_op h1 a1 b1, sim_op h2 a2 b2⟩
theorem me_cmp {op : CmpOp} {m : D → D → Sto → Option D} (ho : MOp X ca (compareOp op) m) (ha : ME X ca W a f) (hb : ME X ca W b g) (hm : behindInMarks op b = false := by first | exact nomark _ | rfl) : ME X ca W (.Compare a [op] [b] pos) (opM m f g) := by
  obtain ⟨q, h1, h2⟩ := ho
  obtain ⟨ta, a1, a2⟩ := ha
  obtain ⟨tb, b1, b2⟩ := hb
  exact ⟨_, pe_cmpR h1 a1 b1 hm, sim_op h2 a2 b2⟩
/-- a value's bool -/
def blM (f : EM) : TM := fun env st => (f env st).bind fun d s => match d with
  | .bl b => .ok b s
  | _ => .bad
theorem sim_test {K : PySem.W.Frag} {ta : TE} (ha : SimE K ca W ta f) : SimT K ca W (tTest ta) (blM f) := fun F r G σ H env st Q S E h => by
  refine ha F r G σ H env st _ S E (Post.imp (Post.bind h) fun F1 r1 H1 s1 d e1 p1 S1 h1 v rv => ?_)
  cases rv with
  | bl b => exact ⟨b, rfl, h1 F1 r1 H1 (Evl.Ex.refl _) (List.prefix_refl _) S1⟩
  | _ => exact h1.elim
theorem mt_cmp {op : CmpOp} {m : D → D → Sto → Option D} (ho : MOp X ca (compareOp op) m) (ha : ME X ca W a f) (hb : ME X ca W b g) (hm : behindInMarks op b = false := by first | exact nomark _ | rfl) : MT X ca W (.Compare a [op] [b] pos) (blM (opM m f g)) := by
  obtain ⟨q, h1, h2⟩ := ho
  obtain ⟨ta, a1, a2⟩ := ha
  obtain ⟨tb, b1, b2⟩ := hb
  exact ⟨_, pt_cmpR h1 a1 b1 hm, sim_test (sim_op h2 a2 b2)⟩
/-- an expression whose value is a bool, as a test -/
theorem mt_val (ha : ME X ca W a f) (he : ∀ whole, isTrue a X.env whole = (do let v ← whole; standAt a.pos; holding [v] (truthy v)) := by intro _; rfl) : MT X ca W a (blM f) := by
  obtain ⟨ta, a1, a2⟩ := ha
  exact ⟨_, pt_val a1 he, sim_test a2⟩
/-! ### and, or, not, if -/
def andM (f g : TM) : TM := fun env st => (f env st).bind fun b s => if b = true then g env s else .ok false s
def orM (f g : TM) : TM := fun env st => (f env st).bind fun b s => if b = true then .ok true s else g env s
def notM (f : TM) : TM := fun env st => (f env st).bind fun b s => .ok (!b) s
def ifM (t : TM) (f g : EM) : EM := fun env st => (t env st).bind fun b s => if b = true then f env s else g env s
def bvM (f : TM) : EM := fun env st => (f env st).bind fun b s => .ok (.bl b) s
variable {t u : TM} {rest : List Expr}
theorem mw_and1 (h : MT X ca W a t) : MW X ca W (.BoolOp .And [a] pos) t := by
  obtain ⟨ta, a1, a2⟩ := h
  exact ⟨_, pw_and1 a1, a2⟩
theorem mw_or1 (h : MT X ca W a t) : MW X ca W (.BoolOp .Or [a] pos) t := by
  obtain ⟨ta, a1, a2⟩ := h
  exact ⟨_, pw_or1 a1, a2⟩
theorem mw_and (h : MT X ca W a t) (h2 : MW X ca W (.BoolOp .And (b :: rest) pos) u) : MW X ca W (.BoolOp .And (a :: b :: rest) pos) (andM t u) := by
  obtain ⟨ta, a1, a2⟩ := h
  obtain ⟨tb, b1, b2⟩ := h2
  refine ⟨_, pw_and a1 b1, fun F r G σ H env st Q S E h => ?_⟩
  refine a2 F r G σ H env st _ S E (Post.imp (Post.bind h) fun F1 r1 H1 s1 d e1 p1 S1 h1 => ?_)
  cases d with
  | true => exact b2 F1 r1 G σ H1 env s1 _ S1 (E.mono e1 p1) h1
  | false => exact h1 F1 r1 H1 (Evl.Ex.refl _) (List.prefix_refl _) S1
theorem mw_or (h : MT X ca W a t) (h2 : MW X ca W (.BoolOp .Or (b :: rest) pos) u) : MW X ca W (.BoolOp .Or (a :: b :: rest) pos) (orM t u) := by
  obtain ⟨ta, a1, a2⟩ := h
  obtain ⟨tb, b1, b2⟩ := h2
  refine ⟨_, pw_or a1 b1, fun F r G σ H env st Q S E h => ?_⟩
  refine a2 F r G σ H env st _ S E (Post.imp (Post.bind h) fun F1 r1 H1 s1 d e1 p1 S1 h1 => ?_)
  cases d with
  | false => exact b2 F1 r1 G σ H1 env s1 _ S1 (E.mono e1 p1) h1
  | true => exact h1 F1 r1 H1 (Evl.Ex.refl _) (List.prefix_refl _) S1
theorem MW.mt (h : MW X ca W a t) : MT X ca W a t := by
  obtain ⟨ta, a1, a2⟩ := h
  exact ⟨_, a1.pt, a2⟩
theorem mt_not (h : MT X ca W a t) : MT X ca W (.UnaryOp .Not a pos) (notM t) := by
  obtain ⟨ta, a1, a2⟩ := h
  refine ⟨_, pt_not a1, fun F r G σ H env st Q S E h => ?_⟩
  exact a2 F r G σ H env st _ S E (Post.imp (Post.bind h) fun F1 r1 H1 s1 d e1 p1 S1 h1 => h1 F1 r1 H1 (Evl.Ex.refl _) (List.prefix_refl _) S1)
theorem me_ife (hc : MT X ca W c t) (ha : ME X ca W a f) (hb : ME X ca W b g) : ME X ca W (.IfExp c a b pos) (ifM t f g) := by
  obtain ⟨tc, c1, c2⟩ := hc
  obtain ⟨ta, a1, a2⟩ := ha
  obtain ⟨tb, b1, b2⟩ := hb
  refine ⟨_, pe_ifExp c1 a1 b1, fun F r G σ H env st Q S E h => ?_⟩
  refine c2 F r G σ H env st _ S E (Post.imp (Post.bind h) fun F1 r1 H1 s1 d e1 p1 S1 h1 => ?_)
  cases d with
  | true => exact a2 F1 r1 G σ H1 env s1 _ S1 (E.mono e1 p1) h1
  | false => exact b2 F1 r1 G σ H1 env s1 _ S1 (E.mono e1 p1) h1
/-- .. as values (bools) -/
def andV (f g : EM) : EM := fun env st => (blM f env st).bind fun b s => if b = true then g env s else .ok (.bl false) s
def orV (f g : EM) : EM := fun env st => (blM f env st).bind fun b s => if b = true then .ok (.bl true) s else g env s
def notV (f : EM) : EM := fun env st => (blM f env st).bind fun b s => .ok (.bl (!b)) s
theorem me_one {op : BoolOp} (h : ME X ca W a f) : ME X ca W (.BoolOp op [a] pos) f := by
  obtain ⟨ta, a1, a2⟩ := h
  exact ⟨_, pe_one a1, a2⟩
theorem me_and (h : ME X ca W a f) (h2 : ME X ca W (.BoolOp .And (b :: rest) pos) g) : ME X ca W (.BoolOp .And (a :: b :: rest) pos) (andV f g) := by
  obtain ⟨ta, a1, a2⟩ := h
  obtain ⟨tb, b1, b2⟩ := h2
  refine ⟨_, pe_and a1 b1, fun F r G σ H env st Q S E h => ?_⟩
  refine sim_test a2 F r G σ H env st (fun c H1 => if c = true then tb σ H1 Q else Q (.bl false) H1) S E (Post.imp (Post.bind h) fun F1 r1 H1 s1 d e1 p1 S1 h1 => ?_)
  cases d with
  | true => exact b2 F1 r1 G σ H1 env s1 _ S1 (E.mono e1 p1) h1
  | false => exact h1 F1 r1 H1 (Evl.Ex.refl _) (List.prefix_refl _) S1 _ (.bl false)
theorem me_or (h : ME X ca W a f) (h2 : ME X ca W (.BoolOp .Or (b :: rest) pos) g) : ME X ca W (.BoolOp .Or (a :: b :: rest) pos) (orV f g) := by
  obtain ⟨ta, a1, a2⟩ := h
  obtain ⟨tb, b1, b2⟩ := h2
  refine ⟨_, pe_or a1 b1, fun F r G σ H env st Q S E h => ?_⟩
  refine sim_test a2 F r G σ H env st (fun c H1 => if c = true then Q (.bl true) H1 else tb σ H1 Q) S E (Post.imp (Post.bind h) fun F1 r1 H1 s1 d e1 p1 S1 h1 => ?_)
  cases d with
  | false => exact b2 F1 r1 G σ H1 env s1 _ S1 (E.mono e1 p1) h1
  | true => exact h1 F1 r1 H1 (Evl.Ex.refl _) (List.prefix_refl _) S1 _ (.bl true)
theorem me_not (h : ME X ca W a f) : ME X ca W (.UnaryOp .Not a pos) (notV f) := by
  obtain ⟨ta, a1, a2⟩ := h
  refine ⟨_, pe_not a1, fun F r G σ H env st Q S E h => ?_⟩
  exact sim_test a2 F r G σ H env st (fun c H1 => Q (.bl (!c)) H1) S E (Post.imp (Post.bind h) fun F1 r1 H1 s1 d e1 p1 S1 h1 => h1 F1 r1 H1 (Evl.Ex.refl _) (List.prefix_refl _) S1 _ (.bl _))
/-- a op1 b op2 c -/
def chM (m m' : D → D → Sto → Option D) (f g k : EM) : EM := fun env st => (f env st).bind fun a s => (g env s).bind fun b s => match m a b s with
  | some (.bl true) => (k env s).bind fun c s => Res.of (m' b c s) s
  | some (.bl false) => .ok (.bl false) s
  | _ => .bad
theorem sim_chain {K : PySem.W.Frag} {q q' : R2} {m m' : D → D → Sto → Option D} {ta tb tc : TE} (hq : SimR K ca m q) (hq' : SimR K ca m' q') (ha : SimE K ca W ta f) (hb : SimE K ca W tb g) (hc : SimE K ca W tc k) : SimE K ca W (tChain q q' ta tb tc) (chM m m' f g k) := fun F r G σ H env st Q S E h => by
  refine ha F r G σ H env st _ S E (Post.imp (Post.bind h) fun F1 r1 H1 s1 d e1 p1 S1 h1 v rv => ?_)
  refine hb F1 r1 G σ H1 env s1 _ S1 (E.mono e1 p1) (Post.imp (Post.bind h1) fun F2 r2 H2 s2 d2 e2 p2 S2 h2 v2 rv2 => ?_)
  cases z : m d d2 s2 with
  | none => rw [z] at h2; exact h2.elim
  | some zz =>
    rw [z] at h2
    refine hq F2 r2 G H2 s2 v v2 d d2 zz _ S2 (rv.mono e2 p2) rv2 z fun F3 H3 v3 e3 S3 rv3 => ?_
    cases rv3 with
    | bl b3 =>
      refine ⟨b3, rfl, ?_⟩
      cases b3 with
      | true =>
        refine hc F3 r2 G σ H3 env s2 _ S3 (E.mono ((e1.trans e2).trans e3) (p1.trans p2)) (Post.imp (Post.mono e3 (List.prefix_refl _) (Post.bind h2)) fun F4 r4 H4 s4 d4 e4 p4 S4 h4 v4 rv4 => ?_)
        cases z4 : m' d2 d4 s4 with
        | none => rw [z4] at h4; exact h4.elim
        | some zz4 =>
          rw [z4] at h4
          exact hq' F4 r4 G H4 s4 v2 v4 d2 d4 zz4 _ S4 (rv2.mono (e3.trans e4) p4) rv4 z4 fun F' H' v' e' S' rv' => h4 F' r4 H' e' (List.prefix_refl _) S' v' rv'
      | false => exact h2 F3 r2 H3 e3 (List.prefix_refl _) S3 _ (.bl false)
    | _ => exact h2.elim
theorem me_chain {op op' : CmpOp} {m m' : D → D → Sto → Option D} (ho : MOp X ca (compareOp op) m) (ho' : MOp X ca (compareOp op') m') (ha : ME X ca W a f) (hb : ME X ca W b g) (hc : ME X ca W c k)
    (hm : lastMarks [op, op'] [b, c] = false := by with_unfolding_all rfl) : ME X ca W (.Compare a [op, op'] [b, c] pos) (chM m m' f g k) := by
  obtain ⟨q, h1, h2⟩ := ho
  obtain ⟨q', h1', h2'⟩ := ho'
  obtain ⟨ta, a1, a2⟩ := ha
  obtain ⟨tb, b1, b2⟩ := hb
  obtain ⟨tc, c1, c2⟩ := hc
  exact ⟨_, pe_chain h1 h1' a1 b1 c1 hm, sim_chain h2 h2' a2 b2 c2⟩
theorem mt_chain {op op' : CmpOp} {m m' : D → D → Sto → Option D} (ho : MOp X ca (compareOp op) m) (ho' : MOp X ca (compareOp op') m') (ha : ME X ca W a f) (hb : ME X ca W b g) (hc : ME X ca W c k)
    (hm : lastMarks [op, op'] [b, c] = false := by with_unfolding_all rfl) : MT X ca W (.Compare a [op, op'] [b, c] pos) (blM (chM m m' f g k)) := by
  obtain ⟨q, h1, h2⟩ := ho
  obtain ⟨q', h1', h2'⟩ := ho'
  obtain ⟨ta, a1, a2⟩ := ha
  obtain ⟨tb, b1, b2⟩ := hb
  obtain ⟨tc, c1, c2⟩ := hc
  exact ⟨_, pt_chain h1 h1' a1 b1 c1 hm, sim_test (sim_chain h2 h2' a2 b2 c2)⟩
end
/-! ### arguments, displays -/
def nilA : AM := fun _ st => .ok [] st
def consA (f : EM) (g : AM) : AM := fun env st => (f env st).bind fun d s => (g env s).bind fun ds s => .ok (d :: ds) s
def LIM : Nat := 100000
theorem lim_sz {n : Nat} (h : n ≤ LIM) : n ≤ sizeLine := Nat.le_trans h (by decide)
theorem lim_sz1 {n : Nat} (h : n < LIM) : n < sizeLine := Nat.lt_of_lt_of_le h (by decide)
def tupM (f : AM) : EM := fun env st => (f env st).bind fun ds s => if ds.length ≤ LIM then .ok (.tup ds) s else .bad
def lstM (f : AM) : AM := fun env st => (f env st).bind fun ds s => if ds.length ≤ LIM then .ok ds s else .bad
/-- a new list stands still -/
def frzM (f : AM) : EM := fun env st => (f env st).bind fun ds s => .ok (.lst ds) s
/-- a new list is owned -/
def ownM (f : AM) : EM := fun env st => (f env st).bind fun ds s => .ok (.own s.length) (s ++ [.lst ds])
section
variable {X : Cx} {ca : CA} {W : WX} {a b c e : Expr} {es : List Expr} {f : EM} {g : AM} {pos : Pos}
theorem ma_nil : MA X ca W [] nilA := ⟨_, pa_nil, fun F r G σ H env st Q S E h => h F r H (Evl.Ex.refl _) (List.prefix_refl _) S [] .nil⟩
theorem ma_cons (ha : ME X ca W e f) (hr : MA X ca W es g) (hs : starEach (e :: es) X.env = (false, eval e X.env) :: starEach es X.env := by rfl) : MA X ca W (e :: es) (consA f g) := by
  obtain ⟨ta, a1, a2⟩ := ha
  obtain ⟨tb, b1, b2⟩ := hr
  refine ⟨_, pa_cons a1 b1 hs, fun F r G σ H env st Q S E h => ?_⟩
  refine a2 F r G σ H env st _ S E (Post.imp (Post.bind h) fun F1 r1 H1 s1 d e1 p1 S1 h1 v rv => ?_)
  refine b2 F1 r1 G σ H1 env s1 _ S1 (E.mono e1 p1) (Post.imp (Post.bind h1) fun F2 r2 H2 s2 d2 e2 p2 S2 h2 v2 rv2 => ?_)
  exact h2 F2 r2 H2 (Evl.Ex.refl _) (List.prefix_refl _) S2 _ (.cons (rv.mono e2 p2) rv2)
theorem me_tup {j} (h : MA X ca W es g) : ME X ca W (.Tuple es j pos) (tupM g) := by
  obtain ⟨ta, a1, a2⟩ := h
  refine ⟨_, pe_tup a1, fun F r G σ H env st Q S E h => ?_⟩
  refine a2 F r G σ H env st _ S E (Post.imp (Post.bind h) fun F1 r1 H1 s1 ds e1 p1 S1 h1 vs rv => ?_)
  by_cases hl : ds.length ≤ LIM
  · rw [if_pos hl] at h1
    refine ⟨lim_sz (by rw [rv.length]; exact hl), fun p hp => ?_⟩
    exact h1 (upd F1 p (.tup vs)) r1 _ (Evl.Ex.new (S1.fresh_F hp)) (List.prefix_refl _) (S1.newF hp) _ (.tup (Evl.st_of upd_same) (rv.mono (Evl.Ex.new (S1.fresh_F hp)) (List.prefix_refl _)))
  · rw [if_neg hl] at h1; exact h1.elim
theorem ml_lst (h : MA X ca W es g) : ML X ca W (.List es pos) (lstM g) := by
  obtain ⟨ta, a1, a2⟩ := h
  refine ⟨_, pe_lst a1, fun F r G σ H env st Q S E h => ?_⟩
  refine a2 F r G σ H env st _ S E (Post.imp (Post.bind h) fun F1 r1 H1 s1 ds e1 p1 S1 h1 vs rv => ?_)
  by_cases hl : ds.length ≤ LIM
  · rw [if_pos hl] at h1
    refine ⟨lim_sz (by rw [rv.length]; exact hl), fun p hp => ?_⟩
    exact h1 F1 r1 _ (Evl.Ex.refl _) (List.prefix_refl _) (S1.upd _ (S1.free hp)) p vs upd_same (S1.free hp) rv
  · rw [if_neg hl] at h1; exact h1.elim
theorem ML.frz (h : ML X ca W e g) : ME X ca W e (frzM g) := by
  obtain ⟨ta, a1, a2⟩ := h
  refine ⟨_, a1, fun F r G σ H env st Q S E h => ?_⟩
  refine a2 F r G σ H env st _ S E (Post.imp (Post.bind h) fun F1 r1 H1 s1 ds e1 p1 S1 h1 p xs hp fr q => ?_)
  exact h1 (upd F1 p (.lst xs)) r1 H1 (Evl.Ex.new fr.f) (List.prefix_refl _) (S1.freeze fr hp) _ (.lst upd_same (q.mono (Evl.Ex.new fr.f) (List.prefix_refl _)))
theorem ML.own (h : ML X ca W e g) : ME X ca W e (ownM g) := by
  obtain ⟨ta, a1, a2⟩ := h
  refine ⟨_, a1, fun F r G σ H env st Q S E h => ?_⟩
  refine a2 F r G σ H env st _ S E (Post.imp (Post.bind h) fun F1 r1 H1 s1 ds e1 p1 S1 h1 p xs hp fr q => ?_)
  refine h1 F1 (r1 ++ [p]) H1 (Evl.Ex.refl _) (List.prefix_append _ _) (S1.owned fr hp ⟨fr.f, xs, rfl, q.mono (Evl.Ex.refl _) (List.prefix_append _ _)⟩) _ (.own ?_)
  rw [List.getElem?_append_right (by rw [S1.len]; exact Nat.le_refl _), S1.len]
  simp
end
/-- an owned list stands still from now on -/
def stillM (f : EM) : EM := fun env st => (f env st).bind fun d s => match d with
  | .own k => match s[k]? with
    | some (.lst ds) => .ok (.lst ds) (s.set k (.fz ds))
    | some (.fz ds) => .ok (.lst ds) s
    | _ => .bad
  | d => .ok d s
section
variable {X : Cx} {ca : CA} {W : WX} {e : Expr} {f : EM}
theorem RV.own_inv {K : PySem.W.Frag} {F : Hp} {r : List Addr} {v : V} {k : Nat} : RV K ca F r v (.own k) → ∃ a, v = .ref a ∧ r[k]? = some a
  | .own h => ⟨_, rfl, h⟩
theorem ME.still (h : ME X ca W e f) : ME X ca W e (stillM f) := by
  obtain ⟨ta, a1, a2⟩ := h
  refine ⟨_, a1, fun F r G σ H env st Q S E h => ?_⟩
  refine a2 F r G σ H env st _ S E (Post.imp (Post.bind h) fun F1 r1 H1 s1 d e1 p1 S1 h1 v rv => ?_)
  cases d with
  | own k =>
    obtain ⟨a, rfl, ha⟩ := rv.own_inv
    replace h1 : Post X.K ca W σ F1 r1 G (match s1[k]? with
      | some (.lst ds) => .ok (.lst ds) (s1.set k (.fz ds))
      | some (.fz ds) => .ok (.lst ds) s1
      | _ => .bad) (WV X.K ca Q) := h1
    split at h1
    · rename_i ds hk
      obtain ⟨xs, hx, q, S2, e2⟩ := S1.still hk ha
      exact h1 _ r1 H1 e2 (List.prefix_refl _) S2 _ (.lst upd_same (q.mono e2 (List.prefix_refl _)))
    · rename_i ds hk
      obtain ⟨xs, hx, q⟩ := S1.ob k _ a hk ha
      exact h1 F1 r1 H1 (Evl.Ex.refl _) (List.prefix_refl _) S1 _ (.lst hx q)
    · exact h1.elim
  | _ => exact h1 F1 r1 H1 (Evl.Ex.refl _) (List.prefix_refl _) S1 v rv
end
/-! ### statements -/
def seqS (f g : SM) : SM := fun env st => (f env st).seq g
def nxS : SM := fun env st => .nx env st
def brS : SM := fun env st => .bk env st
def ctS : SM := fun env st => .ct env st
def retS (f : EM) : SM := fun env st => (f env st).toS env fun d s => .rt d s
def retN : SM := fun _ st => .rt .non st
def dropS (f : EM) : SM := fun env st => (f env st).toS env fun _ s => .nx env s
def setS (i : Nat) (f : EM) : SM := fun env st => (f env st).toS env fun d s => .nx (env.set i (some d)) s
def ifS (t : TM) (f g : SM) : SM := fun env st => (t env st).toS env fun b s => if b = true then f env s else g env s
def badS : SM := fun _ _ => .bad
def asgS (f : EM) (g : GM) : SM := fun env st => (f env st).toS env fun d s => match g d env with
  | some env' => .nx env' s
  | none => .bad
section
variable {X : Cx} {ca : CA} {W : WX} {a b c e : Expr} {s : Stmt} {ss ss2 : List Stmt} {f : EM} {t : TM} {m m2 : SM} {pos : Pos}
theorem mss_nil : MSs X ca W [] nxS := ⟨_, pss_nil, fun F r G σ H env st D S E h => h F r H σ (Evl.Ex.refl _) (List.prefix_refl _) S E⟩
theorem sim_seq {K : PySem.W.Frag} {ts us : TS} (h1 : SimS K ca W ts m) (h2 : SimS K ca W us m2) : SimS K ca W (tSeq ts us) (seqS m m2) := fun F r G σ H env st D S E h => by
  refine h1 F r G σ H env st _ S E ?_
  unfold seqS at h
  cases z : m env st with
  | nx e1 s1 => rw [z] at h; exact fun F' r' H' σ' e' p' S' E' => h2 F' r' G σ' H' e1 s1 D S' E' (PostS.mono e' p' h)
  | _ => rw [z] at h; exact h
theorem mss_cons (h1 : MS X ca W s m) (h2 : MSs X ca W ss m2) : MSs X ca W (s :: ss) (seqS m m2) := by
  obtain ⟨ts, a1, a2⟩ := h1
  obtain ⟨us, b1, b2⟩ := h2
  exact ⟨_, pss_cons a1 b1, sim_seq a2 b2⟩
theorem mss_one (h1 : MS X ca W s m) : MSs X ca W [s] m := by
  obtain ⟨ts, a1, a2⟩ := h1
  exact ⟨_, pss_one a1, a2⟩
theorem ms_pass : MS X ca W (.Pass pos) nxS := ⟨_, ps_pass, fun F r G σ H env st D S E h => h F r H σ (Evl.Ex.refl _) (List.prefix_refl _) S E⟩
theorem ms_break : MS X ca W (.Break pos) brS := ⟨_, ps_break, fun F r G σ H env st D S E h => h F r H σ (Evl.Ex.refl _) (List.prefix_refl _) S E⟩
theorem ms_continue : MS X ca W (.Continue pos) ctS := ⟨_, ps_continue, fun F r G σ H env st D S E h => h F r H σ (Evl.Ex.refl _) (List.prefix_refl _) S E⟩
theorem ms_never : MS X ca W s badS := ⟨_, ps_never, fun F r G σ H env st D S E h => h.elim⟩
theorem ms_ret (h : ME X ca W e f) : MS X ca W (.Return (some e) pos) (retS f) := by
  obtain ⟨ta, a1, a2⟩ := h
  refine ⟨_, ps_ret a1, fun F r G σ H env st D S E h => ?_⟩
  exact a2 F r G σ H env st _ S E (Post.imp (PostS.ofE E h) fun F1 r1 H1 s1 d e1 p1 S1 h1 v rv => h1 F1 r1 H1 v (Evl.Ex.refl _) (List.prefix_refl _) S1 rv)
theorem ms_retN : MS X ca W (.Return none pos) retN := ⟨_, ps_retN, fun F r G σ H env st D S E h => h F r H .non (Evl.Ex.refl _) (List.prefix_refl _) S .non⟩
theorem ms_expr (h : ME X ca W e f) (hs : swapsWith e none pos.line X.env = pure false := by rfl) : MS X ca W (.Expr e pos) (dropS f) := by
  obtain ⟨ta, a1, a2⟩ := h
  refine ⟨_, ps_expr a1 hs, fun F r G σ H env st D S E h => ?_⟩
  exact a2 F r G σ H env st _ S E (Post.imp (PostS.ofE E h) fun F1 r1 H1 s1 d e1 p1 S1 h1 v rv => h1 F1 r1 H1 σ (Evl.Ex.refl _) (List.prefix_refl _) S1 (E.mono e1 p1))
theorem sim_set {K : PySem.W.Frag} {ta : TE} {i : Nat} (a2 : SimE K ca W ta f) : SimS K ca W (tAsg ta (gName i)) (setS i f) := fun F r G σ H env st D S E h =>
  a2 F r G σ H env st _ S E (Post.imp (PostS.ofE E h) fun F1 r1 H1 s1 d e1 p1 S1 h1 v rv => h1 F1 r1 H1 _ (Evl.Ex.refl _) (List.prefix_refl _) S1 ((E.mono e1 p1).set rv i))
theorem ms_set {i : Nat} {x : Str} {pos' : Pos} (hN : X.N.Nodup) (h : ME X ca W e f) (hi : X.N[i]? = some x := by rfl) (hx : Loc X.env.scope x := by first | exact Or.inl rfl | exact Or.inr rfl) (hs : swapsWith e (some (.Name x pos')) pos.line X.env = pure false := by rfl)
    (hf : X.fn x = true ∨ X.env.scope.names.lookup x = some .local := by first | exact .inl rfl | exact .inr rfl | assumption) : MS X ca W (.Assign [.Name x pos'] e pos) (setS i f) := by
  obtain ⟨ta, a1, a2⟩ := h
  exact ⟨_, ps_set hN hi hx a1 hs hf, sim_set a2⟩
theorem ms_if (hc : MT X ca W c t) (h1 : MSs X ca W ss m) (h2 : MSs X ca W ss2 m2) : MS X ca W (.If c ss ss2 pos) (ifS t m m2) := by
  obtain ⟨tc, c1, c2⟩ := hc
  obtain ⟨ts, a1, a2⟩ := h1
  obtain ⟨us, b1, b2⟩ := h2
  refine ⟨_, ps_if c1 a1 b1, fun F r G σ H env st D S E h => ?_⟩
  refine c2 F r G σ H env st _ S E (Post.imp (PostS.ofE E h) fun F1 r1 H1 s1 d e1 p1 S1 h1 => ?_)
  cases d with
  | true => exact a2 F1 r1 G σ H1 env s1 D S1 (E.mono e1 p1) h1
  | false => exact b2 F1 r1 G σ H1 env s1 D S1 (E.mono e1 p1) h1
/-! targets -/
def nmG (i : Nat) : GM := fun d env => some (env.set i (some d))
def nilG : List D → Env → Option Env := fun ds env => match ds with
  | [] => some env
  | _ => none
def consG (g : GM) (gs : List D → Env → Option Env) : List D → Env → Option Env := fun ds env => match ds with
  | d :: ds => (g d env).bind fun env => gs ds env
  | [] => none
def tupG (n : Nat) (gs : List D → Env → Option Env) : GM := fun d env => match d with
  | .tup ds => if ds.length = n then gs ds env else none
  | _ => none
theorem wipe_set (σ : L2.St) (i : Nat) (x : Option V) : ∀ vs : List Nat, i ∈ vs → wipe (σ.set i x) vs = wipe σ vs
  | [], h => by simp at h
  | v :: vs, h => by
    unfold wipe
    by_cases hv : i ∈ vs
    · rw [wipe_set σ i x vs hv]
    · have e : i = v := (List.mem_cons.mp h).resolve_right hv
      subst e
      have c : ∀ us : List Nat, i ∉ us → wipe (σ.set i x) us = (wipe σ us).set i x := fun us => by
        induction us with
        | nil => intro _; rfl
        | cons u us ih =>
          intro hu
          have h1 : i ≠ u := fun e => hu (by rw [e]; exact List.mem_cons_self)
          have h2 : i ∉ us := fun m => hu (List.mem_cons_of_mem _ m)
          unfold wipe
          rw [ih h2, List.set_comm _ _ h1]
      rw [c vs hv, List.set_set]
theorem mg_nm {i : Nat} {x : Str} (hN : X.N.Nodup) (hi : X.N[i]? = some x := by rfl) (hx : Loc X.env.scope x := by first | exact Or.inl rfl | exact Or.inr rfl) (hf : X.fn x = true ∨ X.env.scope.names.lookup x = some .local := by first | exact .inl rfl | exact .inr rfl | assumption) : MG X ca [i] (.Name x pos) (nmG i) :=
  ⟨_, pg_name hN hi hx hf, fun F r G σ H env st v d env' Q S E rv h k => by
    cases h
    exact k _ (E.set rv i) fun vs hv => wipe_set σ i _ vs (hv i List.mem_cons_self)⟩
theorem mgs_nil : MGs X ca [] [] nilG := ⟨_, pgs_nil, fun F r G σ H env st vs ds env' Q S E rv h k => by
  cases rv with
  | nil => cases h; exact ⟨rfl, k σ E fun _ _ => rfl⟩
  | cons _ _ => cases h⟩
theorem mgs_cons {es : List Expr} {g : GM} {gs : List D → Env → Option Env} {l l' : List Nat} (h1 : MG X ca l e g) (h2 : MGs X ca l' es gs) (hs : (assignEach (e :: es) X.env).map (·.2) = assign e X.env :: (assignEach es X.env).map (·.2) := by rfl) : MGs X ca (l ++ l') (e :: es) (consG g gs) := by
  obtain ⟨t, a1, a2⟩ := h1
  obtain ⟨u, b1, b2⟩ := h2
  refine ⟨_, pgs_cons a1 b1 hs, fun F r G σ H env st vs ds env' Q S E rv h k => ?_⟩
  cases rv with
  | nil => cases h
  | cons q qs =>
    rename_i x d xs ds
    replace h : (g d env).bind (fun env => gs ds env) = some env' := h
    cases z : g d env with
    | none => rw [z] at h; cases h
    | some env1 =>
      rw [z] at h
      exact ⟨x, xs, rfl, a2 F r G σ H env st x d env1 _ S E q z fun σ1 E1 w1 => b2 F r G σ1 H env1 st xs ds env' _ S E1 qs h fun σ2 E2 w2 => k σ2 E2 fun vs hv => (w2 vs fun i hi => hv i (List.mem_append_right _ hi)).trans (w1 vs fun i hi => hv i (List.mem_append_left _ hi))⟩
theorem mg_tup {es : List Expr} {gs : List D → Env → Option Env} {l : List Nat} {k n : Nat} (hc : X.calm = true) (h : MGs X ca l es gs) (hn : (assignEach es X.env).length = n := by rfl) (hst : (assignEach es X.env).findIdx? (·.1) = none := by rfl) : MG X ca l (.Tuple es k pos) (tupG n gs) := by
  obtain ⟨t, a1, a2⟩ := h
  refine ⟨_, pg_tup hc a1 hn hst, fun F r G σ H env st v d env' Q S E rv h k => ?_⟩
  cases rv with
  | tup ht q =>
    rename_i a xs ds
    replace h : (if ds.length = n then gs ds env else none) = some env' := h
    by_cases hl : ds.length = n
    · rw [if_pos hl] at h
      exact ⟨a, xs, rfl, Evl.ex_t S.exF ht, by rw [q.length]; exact hl, a2 F r G σ H env st xs ds env' Q S E q h k⟩
    · rw [if_neg hl] at h; cases h
  | _ => cases h
theorem ms_asg {g : GM} {l : List Nat} (h : ME X ca W e f) (hg : MG X ca l a g) (hs : swapsWithSole [a] e pos.line X.env = pure false := by rfl) (hw : swappedStores [a] e X.env = pure none := by rfl) (h1 : (assignEach [a] X.env).map (·.2) = [assign a X.env] := by rfl) : MS X ca W (.Assign [a] e pos) (asgS f g) := by
  obtain ⟨ta, a1, a2⟩ := h
  obtain ⟨tg, b1, b2⟩ := hg
  refine ⟨_, ps_asg a1 b1 hs hw h1, fun F r G σ H env st D S E h => ?_⟩
  refine a2 F r G σ H env st _ S E (Post.imp (PostS.ofE E h) fun F1 r1 H1 s1 d e1 p1 S1 h1 v rv => ?_)
  cases z : g d env with
  | none => rw [z] at h1; exact h1.elim
  | some env' =>
    rw [z] at h1
    exact b2 F1 r1 G σ H1 env s1 v d env' _ S1 (E.mono e1 p1) rv z fun σ' E' _ => h1 F1 r1 H1 σ' (Evl.Ex.refl _) (List.prefix_refl _) S1 E'
end
end MX
set_option maxHeartbeats 1000000
/-! MX, part 3: operators, comparisons, subscripts, built-ins, methods. -/
namespace MX
open PySem L2 PyProof.Rows
/-! ### reading lists -/
def rdM (st : Sto) : D → Option (List D)
  | .lst ds => some ds
  | .own k => match st[k]? with
    | some (.lst ds) => some ds
    | some (.fz ds) => some ds
    | _ => none
  | _ => none
def rdL (st : Sto) : D → Option (List D)
  | .scr ns => some (ns.map .int)
  | d => rdM st d
def rdQ (st : Sto) : D → Option (List D)
  | .tup ds => some ds
  | d => rdL st d
section
variable {K : PySem.W.Frag} {ca : CA} {F G H : Hp} {r : List Addr} {st : Sto} {v : V} {d : D} {ds : List D}
theorem rdM_at (S : SR K ca F r G H st) (q : RV K ca F r v d) (h : rdM st d = some ds) : ∃ a xs, v = .ref a ∧ H a = some (.lst xs) ∧ RVs K ca F r xs ds := by
  cases q with
  | lst h1 h2 => cases h; exact ⟨_, _, rfl, S.exF _ _ h1, h2⟩
  | own hk =>
    rename_i a k
    replace h : (match st[k]? with
      | some (.lst ds) => some ds
      | some (.fz ds) => some ds
      | _ => none) = some ds := h
    split at h
    · rename_i es he
      cases h
      obtain ⟨_, xs, h1, h2⟩ := S.ob k _ _ he hk
      exact ⟨_, xs, rfl, h1, h2⟩
    · rename_i es he
      cases h
      obtain ⟨xs, h1, h2⟩ := S.ob k _ _ he hk
      exact ⟨_, xs, rfl, S.exF _ _ h1, h2⟩
    · cases h
  | _ => cases h
theorem rdL_at (S : SR K ca F r G H st) (q : RV K ca F r v d) (h : rdL st d = some ds) : ∃ a xs, v = .ref a ∧ SqL K H a xs ∧ RVs K ca F r xs ds := by
  cases q with
  | scr hs => cases h; exact ⟨_, _, rfl, Evl.ex_l S.exF hs, RVs.ints _⟩
  | lst h1 h2 => obtain ⟨a, xs, e, h3, h4⟩ := rdM_at S (.lst h1 h2) h; exact ⟨a, xs, e, SqL.of h3, h4⟩
  | own hk => obtain ⟨a, xs, e, h3, h4⟩ := rdM_at S (.own hk) h; exact ⟨a, xs, e, SqL.of h3, h4⟩
  | _ => cases h
theorem rdQ_at (S : SR K ca F r G H st) (q : RV K ca F r v d) (h : rdQ st d = some ds) : ∃ a xs, v = .ref a ∧ (SqL K H a xs ∨ SqT K H a xs) ∧ RVs K ca F r xs ds := by
  cases q with
  | tup h1 h2 => cases h; exact ⟨_, _, rfl, .inr (Evl.ex_t S.exF h1), h2⟩
  | scr hs => obtain ⟨a, xs, e, h3, h4⟩ := rdL_at S (.scr hs) h; exact ⟨a, xs, e, .inl h3, h4⟩
  | lst h1 h2 => obtain ⟨a, xs, e, h3, h4⟩ := rdL_at S (.lst h1 h2) h; exact ⟨a, xs, e, .inl h3, h4⟩
  | own hk => obtain ⟨a, xs, e, h3, h4⟩ := rdL_at S (.own hk) h; exact ⟨a, xs, e, .inl h3, h4⟩
  | _ => cases h
end
/-- the list of ints that data is -/
def intsOf : List D → Option (List Int)
  | [] => some []
  | .int i :: ds => (intsOf ds).map (i :: ·)
  | _ :: _ => none
theorem intsOf_map : ∀ ns : List Int, intsOf (ns.map D.int) = some ns
  | [] => rfl
  | n :: ns => by rw [List.map_cons]; unfold intsOf; rw [intsOf_map ns]; rfl
theorem intsOf_some : ∀ {ds : List D} {ns : List Int}, intsOf ds = some ns → ds = ns.map D.int
  | [], ns, h => by cases h; rfl
  | .int i :: ds, ns, h => by
    unfold intsOf at h
    cases z : intsOf ds with
    | none => rw [z] at h; cases h
    | some ms => rw [z] at h; cases h; rw [List.map_cons, intsOf_some z]
  | .non :: _, _, h => by cases h
  | .bl _ :: _, _, h => by cases h
  | .str _ :: _, _, h => by cases h
  | .lst _ :: _, _, h => by cases h
  | .tup _ :: _, _, h => by cases h
  | .obj _ _ :: _, _, h => by cases h
  | .scr _ :: _, _, h => by cases h
  | .own _ :: _, _, h => by cases h

/-! ### operators -/
abbrev Op2 := D → D → Sto → Option D
def orOp (f g : Op2) : Op2 := fun d e st => (f d e st).or (g d e st)
section
variable {X : Cx} {ca : CA} {f : Value → Value → Sem Value} {m m' : Op2}
theorem MOp.or (h : MOp X ca f m) (h' : MOp X ca f m') : MOp X ca f (orOp m m') := by
  obtain ⟨q, a1, a2⟩ := h
  obtain ⟨q', b1, b2⟩ := h'
  refine ⟨_, OpR.or a1 b1, fun F r G H st x y d e z Q S rx ry hz k => ?_⟩
  cases hm : m d e st with
  | some z' =>
    have e1 : z' = z := by unfold orOp at hz; rw [hm] at hz; exact Option.some.inj hz
    subst e1
    exact .inl (a2 F r G H st x y d e _ Q S rx ry hm k)
  | none =>
    have e1 : m' d e st = some z := by unfold orOp at hz; rw [hm] at hz; exact hz
    exact .inr (b2 F r G H st x y d e _ Q S rx ry e1 k)
/-- two ints in, under C -/
def iiOp (C : Int → Int → Prop) [∀ i j, Decidable (C i j)] (g : Int → Int → D) : Op2 := fun d e _ => match d, e with
  | .int i, .int j => if C i j then some (g i j) else none
  | _, _ => none
theorem mop_ii {C C' : Int → Int → Prop} [∀ i j, Decidable (C i j)] {g : Int → Int → V} {g' : Int → Int → D} (hf : OpR X f (rI C' g)) (hc : ∀ i j, C i j → C' i j) (hg : ∀ F r i j, RV X.K ca F r (g i j) (g' i j)) : MOp X ca f (iiOp C g') :=
  ⟨_, hf, fun F r G H st x y d e z Q S rx ry hz k => by
    cases rx with
    | int i =>
      cases ry with
      | int j =>
        replace hz : (if C i j then some (g' i j) else none) = some z := hz
        by_cases c : C i j
        · rw [if_pos c] at hz
          cases hz
          exact ⟨i, j, rfl, rfl, hc i j c, k F H _ (Evl.Ex.refl _) S (hg F r i j)⟩
        · rw [if_neg c] at hz; cases hz
      | _ => cases hz
    | _ => cases hz⟩
def iiOp0 (g : Int → Int → D) : Op2 := fun d e _ => match d, e with
  | .int i, .int j => some (g i j)
  | _, _ => none
theorem mop_ii0 {g : Int → Int → V} {g' : Int → Int → D} (hf : OpR X f (rI0 g)) (hg : ∀ F r i j, RV X.K ca F r (g i j) (g' i j)) : MOp X ca f (iiOp0 g') :=
  ⟨_, hf, fun F r G H st x y d e z Q S rx ry hz k => by
    cases rx with
    | int i =>
      cases ry with
      | int j =>
        cases hz
        exact ⟨i, j, rfl, rfl, k F H _ (Evl.Ex.refl _) S (hg F r i j)⟩
      | _ => cases hz
    | _ => cases hz⟩
def addI : Op2 := iiOp0 fun i j => .int (i + j)
def subI : Op2 := iiOp0 fun i j => .int (i - j)
def ltI : Op2 := iiOp0 fun i j => .bl (decide (i < j))
def leI : Op2 := iiOp0 fun i j => .bl (decide (i ≤ j))
def gtI : Op2 := iiOp0 fun i j => .bl (decide (j < i))
def geI : Op2 := iiOp0 fun i j => .bl (decide (j ≤ i))
def mulOk (i j : Int) : Prop := (-(2 ^ 64) < i ∧ i < 2 ^ 64) ∨ (-(2 ^ 64) < j ∧ j < 2 ^ 64) ∨ (i.natAbs < 2 ^ 1000 ∧ j.natAbs < 2 ^ 1000)
instance (i j : Int) : Decidable (mulOk i j) := by unfold mulOk; infer_instance
def divOk (j : Int) : Prop := 0 < j ∧ j < 10 ^ 40
instance (j : Int) : Decidable (divOk j) := by unfold divOk; infer_instance
def mulI : Op2 := iiOp mulOk fun i j => .int (i * j)
def divI : Op2 := iiOp (fun _ j => divOk j) fun i j => .int (i / j)
def modI : Op2 := iiOp (fun _ j => 0 < j) fun i j => .int (i % j)
def powOk (i j : Int) : Prop := 0 ≤ j ∧ j ≤ 1000000 ∧ i.natAbs < 2 ^ 64
instance (i j : Int) : Decidable (powOk i j) := by unfold powOk; infer_instance
def powI : Op2 := iiOp powOk fun i j => .int (i ^ j.toNat)
theorem mop_subI : MOp X ca (binaryOp .Sub) subI := mop_ii0 op_sub fun _ _ _ _ => .int _
theorem mop_addI : MOp X ca (binaryOp .Add) addI := mop_ii0 op_add fun _ _ _ _ => .int _
theorem mop_ltI : MOp X ca (compareOp .Lt) ltI := mop_ii0 op_lt fun _ _ _ _ => .bl _
theorem mop_leI : MOp X ca (compareOp .LtE) leI := mop_ii0 op_le fun _ _ _ _ => .bl _
theorem mop_gtI : MOp X ca (compareOp .Gt) gtI := mop_ii0 op_gt fun _ _ _ _ => .bl _
theorem mop_geI : MOp X ca (compareOp .GtE) geI := mop_ii0 op_ge fun _ _ _ _ => .bl _
theorem op_mulA : OpR X (binaryOp .Mult) (rI (fun i j => CMul i j ∨ CMulW i j) fun i j => .int (i * j)) := opI fun _ _ _ _ _ _ _ hc q => mul_int q (hc.elim CMul.ok CMulW.ok)
theorem mop_mulI : MOp X ca (binaryOp .Mult) mulI := mop_ii op_mulA (fun i j h => by
  rcases h with h | h | h
  · exact .inl (.inl h)
  · exact .inl (.inr h)
  · exact .inr (wide_mul h.1 h.2 (by decide) (by decide) (by decide))) fun _ _ _ _ => .int _
theorem div_ok {i j : Int} (h : divOk j) : CDivW i j := by
  have h1 := h.1
  have h2 := h.2
  have e : (10 : Int) ^ 40 < 2 ^ 200 := by decide
  exact wide_div (b := 200) h1 (by omega) (by decide) (by decide)
theorem mop_divI : MOp X ca (binaryOp .FloorDiv) divI := mop_ii op_fdivW (fun i j h => div_ok h) fun _ _ _ _ => .int _
theorem mop_modI : MOp X ca (binaryOp .Mod) modI := mop_ii op_mod (fun i j h => h) fun _ _ _ _ => .int _
theorem mop_powI : MOp X ca (binaryOp .Pow) powI := mop_ii op_pow (fun i j h => h) fun _ _ _ _ => .int _
/-- texts -/
def addS : Op2 := fun d e _ => match d, e with
  | .str a, .str b => if a.length + b.length ≤ LIM then some (.str (a ++ b)) else none
  | _, _ => none
theorem mop_addS : MOp X ca (binaryOp .Add) addS := ⟨_, op_add_str, fun F r G H st x y d e z Q S rx ry hz k => by
  cases rx with
  | str a =>
    cases ry with
    | str b =>
      replace hz : (if a.length + b.length ≤ LIM then some (D.str (a ++ b)) else none) = some z := hz
      by_cases c : a.length + b.length ≤ LIM
      · rw [if_pos c] at hz
        cases hz
        exact ⟨a, b, rfl, rfl, lim_sz c, k F H _ (Evl.Ex.refl _) S (.str _)⟩
      · rw [if_neg c] at hz; cases hz
    | _ => cases hz
  | _ => cases hz⟩
/-- tuples -/
def addT : Op2 := fun d e _ => match d, e with
  | .tup a, .tup b => if a.isEmpty = false ∧ a.length + b.length ≤ LIM then some (.tup (a ++ b)) else none
  | _, _ => none
theorem mop_addT : MOp X ca (binaryOp .Add) addT := ⟨_, op_catT, fun F r G H st x y d e z Q S rx ry hz k => by
  cases rx with
  | tup h1 q1 =>
    cases ry with
    | tup h2 q2 =>
      rename_i a xs ds b ys es
      replace hz : (if ds.isEmpty = false ∧ ds.length + es.length ≤ LIM then some (D.tup (ds ++ es)) else none) = some z := hz
      by_cases c : ds.isEmpty = false ∧ ds.length + es.length ≤ LIM
      · rw [if_pos c] at hz
        cases hz
        refine ⟨a, b, xs, ys, rfl, rfl, Evl.ex_t S.exF h1, Evl.ex_t S.exF h2, fun e => ?_, lim_sz (by rw [q1.length, q2.length]; exact c.2), fun e => ?_, fun _ p hp => ?_⟩
        · subst e
          cases q1
          exact absurd c.1 (by simp)
        · subst e
          cases q2
          rw [List.append_nil] at k
          exact k F H _ (Evl.Ex.refl _) S (.tup h1 q1)
        · exact k _ _ _ (Evl.Ex.new (S.fresh_F hp)) (S.newF hp) (.tup (Evl.st_of upd_same) ((q1.append q2).mono (Evl.Ex.new (S.fresh_F hp)) (List.prefix_refl _)))
      · rw [if_neg c] at hz; cases hz
    | _ => cases hz
  | _ => cases hz⟩
/-- lists -/
def catL (d e : D) (st : Sto) : Option (List D) := (rdM st d).bind fun a => (rdM st e).bind fun b => if a.length + b.length ≤ LIM then some (a ++ b) else none
theorem catL_at {K : PySem.W.Frag} {F G H : Hp} {r : List Addr} {st : Sto} {x y : V} {d e : D} {zs : List D} {Q : VK} (S : SR K ca F r G H st) (rx : RV K ca F r x d) (ry : RV K ca F r y e) (h : catL d e st = some zs)
    (k : ∀ H' p ys, SR K ca F r G H' st → H' p = some (.lst ys) → Free F r G p → RVs K ca F r ys zs → Q (.ref p) H') : rCat x y H Q := by
  unfold catL at h
  obtain ⟨a, ha, h⟩ := Option.bind_eq_some_iff.mp h
  obtain ⟨b, hb, h⟩ := Option.bind_eq_some_iff.mp h
  obtain ⟨l, xs, rfl, h1, q1⟩ := rdM_at S rx ha
  obtain ⟨l', ys, rfl, h2, q2⟩ := rdM_at S ry hb
  by_cases c : a.length + b.length ≤ LIM
  · rw [if_pos c] at h
    cases h
    exact ⟨l, l', xs, ys, rfl, rfl, h1, h2, lim_sz (by rw [q1.length, q2.length]; exact c), fun p hp => k _ p _ (S.upd _ (S.free hp)) upd_same (S.free hp) (q1.append q2)⟩
  · rw [if_neg c] at h; cases h
def addL : Op2 := fun d e st => (catL d e st).map D.lst
theorem mop_addL : MOp X ca (binaryOp .Add) addL := ⟨_, op_cat, fun F r G H st x y d e z Q S rx ry hz k => by
  unfold addL at hz
  obtain ⟨zs, h, rfl⟩ := Option.map_eq_some_iff.mp hz
  exact catL_at S rx ry h fun H' p ys S' hp fr q => k _ H' _ (Evl.Ex.new fr.f) (S'.freeze fr hp) (.lst upd_same (q.mono (Evl.Ex.new fr.f) (List.prefix_refl _)))⟩
def addD : Op2 := orOp addI (orOp addL (orOp addS addT))
theorem mop_add : MOp X ca (binaryOp .Add) addD := mop_addI.or (mop_addL.or (mop_addS.or mop_addT))
/-- a list so many times -/
def repL (d e : D) (st : Sto) : Option (List D) := match e with
  | .int n => (rdM st d).bind fun a => if -(2 ^ 62) ≤ n ∧ n ≤ 100000 ∧ a.length * n.toNat ≤ LIM then some (List.replicate n.toNat a).flatten else none
  | _ => none
theorem repL_at {K : PySem.W.Frag} {F G H : Hp} {r : List Addr} {st : Sto} {x y : V} {d e : D} {zs : List D} {Q : VK} (S : SR K ca F r G H st) (rx : RV K ca F r x d) (ry : RV K ca F r y e) (h : repL d e st = some zs)
    (k : ∀ H' p ys, SR K ca F r G H' st → H' p = some (.lst ys) → Free F r G p → RVs K ca F r ys zs → Q (.ref p) H') : rRep x y H Q := by
  cases ry with
  | int n =>
    replace h : ((rdM st d).bind fun a => if -(2 ^ 62) ≤ n ∧ n ≤ 100000 ∧ a.length * n.toNat ≤ LIM then some (List.replicate n.toNat a).flatten else none) = some zs := h
    obtain ⟨a, ha, h⟩ := Option.bind_eq_some_iff.mp h
    obtain ⟨l, xs, rfl, h1, q1⟩ := rdM_at S rx ha
    by_cases c : -(2 ^ 62) ≤ n ∧ n ≤ 100000 ∧ a.length * n.toNat ≤ LIM
    · rw [if_pos c] at h
      cases h
      exact ⟨l, n, xs, rfl, rfl, h1, by have := c.1; omega, by have := c.2.1; omega, lim_sz (by rw [q1.length]; exact c.2.2), fun p hp => k _ p _ (S.upd _ (S.free hp)) upd_same (S.free hp) (q1.rep _)⟩
    · rw [if_neg c] at h; cases h
  | _ => cases h
def mulL : Op2 := fun d e st => (repL d e st).map D.lst
theorem mop_mulL : MOp X ca (binaryOp .Mult) mulL := ⟨_, op_rep, fun F r G H st x y d e z Q S rx ry hz k => by
  unfold mulL at hz
  obtain ⟨zs, h, rfl⟩ := Option.map_eq_some_iff.mp hz
  exact repL_at S rx ry h fun H' p ys S' hp fr q => k _ H' _ (Evl.Ex.new fr.f) (S'.freeze fr hp) (.lst upd_same (q.mono (Evl.Ex.new fr.f) (List.prefix_refl _)))⟩
def mulD : Op2 := orOp mulI mulL
theorem mop_mul : MOp X ca (binaryOp .Mult) mulD := mop_mulI.or mop_mulL
end
/-! as new lists -/
def catM (f g : EM) : AM := fun env st => (f env st).bind fun a s => (g env s).bind fun b s => Res.ofL (catL a b s) s
def repM (f g : EM) : AM := fun env st => (f env st).bind fun a s => (g env s).bind fun b s => Res.ofL (repL a b s) s
section
variable {X : Cx} {ca : CA} {W : WX} {a b c e : Expr} {f g k : EM} {pos : Pos}
theorem sim_opL {K : PySem.W.Frag} {q : R2} {m : D → D → Sto → Option (List D)} {ta tb : TE}
    (hq : ∀ (F : Hp) (r : List Addr) (G H : Hp) (st : Sto) (x y : V) (d e : D) (zs : List D) (Q : VK), SR K ca F r G H st → RV K ca F r x d → RV K ca F r y e → m d e st = some zs → (∀ H' p ys, SR K ca F r G H' st → H' p = some (.lst ys) → Free F r G p → RVs K ca F r ys zs → Q (.ref p) H') → q x y H Q)
    (ha : SimE K ca W ta f) (hb : SimE K ca W tb g) : SimL K ca W (tOp q ta tb) (fun env st => (f env st).bind fun a s => (g env s).bind fun b s => Res.ofL (m a b s) s) := fun F r G σ H env st Q S E h => by
  refine ha F r G σ H env st _ S E (Post.imp (Post.bind h) fun F1 r1 H1 s1 d e1 p1 S1 h1 v rv => ?_)
  refine hb F1 r1 G σ H1 env s1 _ S1 (E.mono e1 p1) (Post.imp (Post.bind h1) fun F2 r2 H2 s2 d2 e2 p2 S2 h2 v2 rv2 => ?_)
  cases z : m d d2 s2 with
  | none => rw [z] at h2; exact h2.elim
  | some zz =>
    rw [z] at h2
    exact hq F2 r2 G H2 s2 v v2 d d2 zz _ S2 (rv.mono e2 p2) rv2 z fun H' p ys S' hp fr rv' => h2 F2 r2 H' (Evl.Ex.refl _) (List.prefix_refl _) S' p ys hp fr rv'
theorem ml_cat (ha : ME X ca W a f) (hb : ME X ca W b g) : ML X ca W (.BinOp a .Add b pos) (catM f g) := by
  obtain ⟨ta, a1, a2⟩ := ha
  obtain ⟨tb, b1, b2⟩ := hb
  exact ⟨_, pe_op op_cat a1 b1, sim_opL (fun F r G H st x y d e zs Q S rx ry h k => catL_at S rx ry h k) a2 b2⟩
theorem ml_rep (ha : ME X ca W a f) (hb : ME X ca W b g) : ML X ca W (.BinOp a .Mult b pos) (repM f g) := by
  obtain ⟨ta, a1, a2⟩ := ha
  obtain ⟨tb, b1, b2⟩ := hb
  exact ⟨_, pe_op op_rep a1 b1, sim_opL (fun F r G H st x y d e zs Q S rx ry h k => repL_at S rx ry h k) a2 b2⟩
/-- one-place operations -/
def unM (m : D → Sto → Option D) (f : EM) : EM := fun env st => (f env st).bind fun d s => Res.of (m d s) s
def negI : D → Sto → Option D := fun d _ => match d with
  | .int i => some (.int (-i))
  | _ => none
theorem me_neg (ha : ME X ca W a f) : ME X ca W (.UnaryOp .USub a pos) (unM negI f) := by
  obtain ⟨ta, a1, a2⟩ := ha
  refine ⟨_, pe_un un_neg a1, fun F r G σ H env st Q S E h => ?_⟩
  refine a2 F r G σ H env st _ S E (Post.imp (Post.bind h) fun F1 r1 H1 s1 d e1 p1 S1 h1 v rv => ?_)
  cases rv with
  | int i => exact ⟨i, rfl, h1 F1 r1 H1 (Evl.Ex.refl _) (List.prefix_refl _) S1 _ (.int _)⟩
  | _ => exact h1.elim
end
/-! ### comparisons of data -/
mutual
/-- plain data of a depth of at most n -/
def D.pl : D → Nat → Bool
  | .non, _ => true
  | .bl _, _ => true
  | .int _, _ => true
  | .str x, _ => PyData.strOk x
  | .lst ds, n + 1 => plAll ds n
  | .tup ds, n + 1 => plAll ds n
  | _, _ => false
def plAll : List D → Nat → Bool
  | [], _ => true
  | d :: ds, n => d.pl n && plAll ds n
end
mutual
def D.py : D → PyData
  | .bl b => .bool b
  | .int i => .int i
  | .str x => .str x
  | .lst ds => .list (pyAll ds)
  | .tup ds => .tuple (pyAll ds)
  | .non => .none
  | .obj _ _ => .none
  | .scr _ => .none
  | .own _ => .none
  | .adr _ => .none
def pyAll : List D → List PyData
  | [] => []
  | d :: ds => d.py :: pyAll ds
end
def deq (d e : D) : Bool := PyData.eqv d.py e.py
def deqs (d e : List D) : Bool := PyData.eqvAll (pyAll d) (pyAll e)
section
mutual
theorem pl_lay : ∀ (d : D) (n : Nat), d.pl n = true → d.py.canLay0 = true ∧ d.py.depth ≤ n
  | .non, n, _ => by unfold D.py PyData.canLay0 PyData.depth; exact ⟨rfl, Nat.zero_le _⟩
  | .bl b, n, _ => by unfold D.py PyData.canLay0 PyData.depth; exact ⟨rfl, Nat.zero_le _⟩
  | .int i, n, _ => by unfold D.py PyData.canLay0 PyData.depth; exact ⟨rfl, Nat.zero_le _⟩
  | .str x, n, h => by unfold D.pl at h; unfold D.py PyData.canLay0 PyData.depth; exact ⟨h, Nat.zero_le _⟩
  | .lst ds, 0, h => by unfold D.pl at h; cases h
  | .lst ds, n + 1, h => by
    unfold D.pl at h
    have := plAll_lay ds n h
    unfold D.py PyData.canLay0 PyData.depth
    exact ⟨this.1, Nat.succ_le_succ this.2⟩
  | .tup ds, 0, h => by unfold D.pl at h; cases h
  | .tup ds, n + 1, h => by
    unfold D.pl at h
    have := plAll_lay ds n h
    unfold D.py PyData.canLay0 PyData.depth
    exact ⟨this.1, Nat.succ_le_succ this.2⟩
  | .obj _ _, n, h => by unfold D.pl at h; cases h
  | .scr _, n, h => by unfold D.pl at h; cases h
  | .own _, n, h => by unfold D.pl at h; cases h
theorem plAll_lay : ∀ (ds : List D) (n : Nat), plAll ds n = true → PyData.canLayAll0 (pyAll ds) = true ∧ PyData.depthAll (pyAll ds) ≤ n
  | [], n, _ => by unfold pyAll PyData.canLayAll0 PyData.depthAll; exact ⟨rfl, Nat.zero_le _⟩
  | d :: ds, n, h => by
    unfold plAll at h
    rw [Bool.and_eq_true] at h
    have h1 := pl_lay d n h.1
    have h2 := plAll_lay ds n h.2
    unfold pyAll PyData.canLayAll0 PyData.depthAll
    rw [h1.1, h2.1]
    exact ⟨rfl, Nat.max_le.mpr ⟨h1.2, h2.2⟩⟩
end
theorem pl_shaped {d : D} (h : d.pl 64 = true) : SeqAt.shaped d.py = true := by
  have := pl_lay d 64 h
  unfold SeqAt.shaped
  rw [this.1, decide_eq_true this.2]
  rfl
variable {K : PySem.W.Frag} {ca : CA} {F G H : Hp} {r : List Addr} {st : Sto}
mutual
theorem RV.dp (e : Ex F H) : ∀ {v : V} {d : D} (n : Nat), RV K ca F r v d → d.pl n = true → Dp K H v d.py
  | _, _, _, .non, _ => by unfold D.py; exact .non
  | _, _, _, .bl b, _ => by unfold D.py; exact .bl b
  | _, _, _, .int b, _ => by unfold D.py; exact .int b
  | _, _, _, .str b, _ => by unfold D.py; exact .str b
  | _, _, 0, .lst h q, c => by unfold D.pl at c; cases c
  | _, _, n + 1, .lst h q, c => by unfold D.pl at c; unfold D.py; exact .lst (SqL.of (e _ _ h)) (RVs.dp e n q c)
  | _, _, 0, .tup h q, c => by unfold D.pl at c; cases c
  | _, _, n + 1, .tup h q, c => by unfold D.pl at c; unfold D.py; exact .tup (Evl.ex_t e h) (RVs.dp e n q c)
  | _, _, _, .obj _ _ _, c => by unfold D.pl at c; cases c
  | _, _, _, .scr _, c => by unfold D.pl at c; cases c
  | _, _, _, .own _, c => by unfold D.pl at c; cases c
theorem RVs.dp (e : Ex F H) : ∀ {vs : List V} {ds : List D} (n : Nat), RVs K ca F r vs ds → plAll ds n = true → DpAll K H vs (pyAll ds)
  | _, _, _, .nil, _ => by unfold pyAll; exact .nil
  | _, _, n, .cons h t, c => by
    unfold plAll at c
    rw [Bool.and_eq_true] at c
    unfold pyAll
    exact .cons (RV.dp e n h c.1) (RVs.dp e n t c.2)
end
/-- a handle's list, read -/
def drf (st : Sto) : D → D
  | .own k => match st[k]? with
    | some (.lst ds) => .lst ds
    | some (.fz ds) => .lst ds
    | _ => .own k
  | .scr ns => .lst (ns.map .int)
  | d => d
theorem drf_own1 (k : Nat) : drf st (.own k) = match st[k]? with
    | some (.lst ds) => .lst ds
    | some (.fz ds) => .lst ds
    | _ => .own k := rfl
theorem rdM_own1 (k : Nat) : rdM st (.own k) = match st[k]? with
    | some (.lst ds) => some ds
    | some (.fz ds) => some ds
    | _ => none := rfl
theorem drf_own (k : Nat) : drf st (.own k) = match rdM st (.own k) with
    | some ds => .lst ds
    | none => .own k := by
  rw [drf_own1, rdM_own1]
  cases st[k]? with
  | none => rfl
  | some m => cases m <;> rfl
theorem drf_dp (S : SR K ca F r G H st) {v : V} {d : D} (q : RV K ca F r v d) (c : (drf st d).pl 64 = true) : Dp K H v (drf st d).py := by
  cases q with
  | scr hs =>
    show Dp K H _ (D.py (.lst _))
    replace c : D.pl (.lst _) 64 = true := c
    unfold D.pl at c
    unfold D.py
    exact .lst (Evl.ex_l S.exF hs) (RVs.dp (ca := ca) (F := F) (r := r) S.exF 63 (RVs.ints _) c)
  | own hk =>
    rename_i a k
    rw [drf_own] at c ⊢
    cases z : rdM st (.own k) with
    | some ds =>
      obtain ⟨a', xs, e, h1, h2⟩ := rdM_at S (.own hk) z
      cases e
      rw [z] at c
      replace c : D.pl (.lst ds) 64 = true := c
      show Dp K H _ (D.py (.lst ds))
      unfold D.pl at c
      unfold D.py
      exact .lst (SqL.of h1) (RVs.dp S.exF 63 h2 c)
    | none =>
      rw [z] at c
      replace c : D.pl (.own k) 64 = true := c
      unfold D.pl at c
      cases c
  | non => exact RV.dp (ca := ca) (F := F) (r := r) S.exF 64 .non c
  | bl b => exact RV.dp (ca := ca) (F := F) (r := r) S.exF 64 (.bl b) c
  | int b => exact RV.dp (ca := ca) (F := F) (r := r) S.exF 64 (.int b) c
  | str b => exact RV.dp (ca := ca) (F := F) (r := r) S.exF 64 (.str b) c
  | lst h q => exact RV.dp (ca := ca) (F := F) (r := r) S.exF 64 (.lst h q) c
  | tup h q => exact RV.dp (ca := ca) (F := F) (r := r) S.exF 64 (.tup h q) c
  | obj h hl q => exact RV.dp (ca := ca) (F := F) (r := r) S.exF 64 (.obj h hl q) c
  | adr a => exact RV.dp (ca := ca) (F := F) (r := r) S.exF 64 (.adr a) c
variable {X : Cx}
def eqD : Op2 := fun d e st => if (drf st d).pl 64 = true ∧ (drf st e).pl 64 = true then some (.bl (deq (drf st d) (drf st e))) else none
def neD : Op2 := fun d e st => if (drf st d).pl 64 = true ∧ (drf st e).pl 64 = true then some (.bl (!deq (drf st d) (drf st e))) else none
theorem mop_eq (hu : X.A.units + 64 < cLine) : MOp X ca (compareOp .Eq) eqD := ⟨_, op_eqD hu, fun F r G H st x y d e z Q S rx ry hz k => by
  unfold eqD at hz
  by_cases c : (drf st d).pl 64 = true ∧ (drf st e).pl 64 = true
  · rw [if_pos c] at hz
    cases hz
    exact ⟨_, _, drf_dp S rx c.1, drf_dp S ry c.2, pl_shaped c.1, pl_shaped c.2, k F H _ (Evl.Ex.refl _) S (.bl _)⟩
  · rw [if_neg c] at hz; cases hz⟩
theorem mop_ne (hu : X.A.units + 64 < cLine) : MOp X ca (compareOp .NotEq) neD := ⟨_, op_neD hu, fun F r G H st x y d e z Q S rx ry hz k => by
  unfold neD at hz
  by_cases c : (drf st d).pl 64 = true ∧ (drf st e).pl 64 = true
  · rw [if_pos c] at hz
    cases hz
    exact ⟨_, _, drf_dp S rx c.1, drf_dp S ry c.2, pl_shaped c.1, pl_shaped c.2, k F H _ (Evl.Ex.refl _) S (.bl _)⟩
  · rw [if_neg c] at hz; cases hz⟩
/-- is None -/
def isNo : D → Bool
  | .non => true
  | _ => false
theorem isNo_rv {v : V} {d : D} (q : RV K ca F r v d) : decide (v = .non) = isNo d := by
  cases q <;> simp [isNo]
def isN : Op2 := fun d e _ => match e with
  | .non => some (.bl (isNo d))
  | _ => none
def notN : Op2 := fun d e _ => match e with
  | .non => some (.bl (!isNo d))
  | _ => none
theorem mop_isN : MOp X ca (compareOp .Is) isN := ⟨_, op_isN, fun F r G H st x y d e z Q S rx ry hz k => by
  cases ry with
  | non => cases hz; exact ⟨rfl, k F H _ (Evl.Ex.refl _) S (by rw [isNo_rv rx]; exact .bl _)⟩
  | _ => cases hz⟩
theorem mop_notN : MOp X ca (compareOp .IsNot) notN := ⟨_, op_notN, fun F r G H st x y d e z Q S rx ry hz k => by
  cases ry with
  | non => cases hz; exact ⟨rfl, k F H _ (Evl.Ex.refl _) S (by rw [isNo_rv rx]; exact .bl _)⟩
  | _ => cases hz⟩
/-- is True, is False -/
def isB2 : Op2 := fun d e _ => match d, e with
  | .bl a, .bl b => some (.bl (decide (a = b)))
  | _, _ => none
def notB2 : Op2 := fun d e _ => match d, e with
  | .bl a, .bl b => some (.bl (!decide (a = b)))
  | _, _ => none
theorem mop_isB : MOp X ca (compareOp .Is) isB2 := ⟨_, op_isBl, fun F r G H st x y d e z Q S rx ry hz k => by
  cases rx with
  | bl a =>
    cases ry with
    | bl b => cases hz; exact ⟨a, b, rfl, rfl, k F H _ (Evl.Ex.refl _) S (.bl _)⟩
    | _ => cases hz
  | _ => cases hz⟩
theorem mop_notB : MOp X ca (compareOp .IsNot) notB2 := ⟨_, op_notBl, fun F r G H st x y d e z Q S rx ry hz k => by
  cases rx with
  | bl a =>
    cases ry with
    | bl b => cases hz; exact ⟨a, b, rfl, rfl, k F H _ (Evl.Ex.refl _) S (.bl _)⟩
    | _ => cases hz
  | _ => cases hz⟩
/-! in a list or tuple of flat items -/
def flD : D → Bool
  | .non => true
  | .bl _ => true
  | .int _ => true
  | .str _ => true
  | _ => false
def eqF : D → D → Bool
  | .non, .non => true
  | .bl a, .bl b => a == b
  | .bl a, .int b => (if a then 1 else 0) == b
  | .int a, .bl b => a == (if b then 1 else 0)
  | .int a, .int b => a == b
  | .str a, .str b => a == b
  | _, _ => false
theorem RV.flat {v : V} {d : D} (q : RV K ca F r v d) : flatV v = flD d := by cases q <;> rfl
theorem RV.eqf {v w : V} {d e : D} (q : RV K ca F r v d) (q2 : RV K ca F r w e) : eqV v w = eqF d e := by cases q <;> cases q2 <;> rfl
theorem RVs.flat : ∀ {vs : List V} {ds : List D}, RVs K ca F r vs ds → vs.all flatV = ds.all flD
  | _, _, .nil => rfl
  | _, _, .cons h t => by rw [List.all_cons, List.all_cons, h.flat, RVs.flat t]
theorem RVs.inF {x : V} {d : D} (q : RV K ca F r x d) : ∀ {vs : List V} {ds : List D}, RVs K ca F r vs ds → inV x vs = ds.any fun y => eqF y d
  | _, _, .nil => rfl
  | _, _, .cons h t => by
    unfold inV
    rw [List.any_cons, List.any_cons, h.eqf q]
    have := RVs.inF q t
    unfold inV at this
    rw [this]
def inD (neg : Bool) : Op2 := fun d e st => (rdQ st e).bind fun ds => if flD d = true ∧ ds.all flD = true then some (.bl (if neg then !(ds.any fun y => eqF y d) else ds.any fun y => eqF y d)) else none
theorem inD_at {neg : Bool} : SimR K ca (inD neg) (rIn K neg) := fun F r G H st x y d e z Q S rx ry hz k => by
  unfold inD at hz
  obtain ⟨ds, h1, h2⟩ := Option.bind_eq_some_iff.mp hz
  obtain ⟨a, xs, rfl, h3, q⟩ := rdQ_at S ry h1
  by_cases c : flD d = true ∧ ds.all flD = true
  · rw [if_pos c] at h2
    cases h2
    refine ⟨a, xs, rfl, h3, by rw [rx.flat]; exact c.1, by rw [q.flat]; exact c.2, k F H _ (Evl.Ex.refl _) S ?_⟩
    rw [RVs.inF rx q]
    exact .bl _
  · rw [if_neg c] at h2; cases h2
theorem mop_in : MOp X ca (compareOp .In) (inD false) := ⟨_, op_in_seq, inD_at⟩
theorem mop_notin : MOp X ca (compareOp .NotIn) (inD true) := ⟨_, op_notIn_seq, inD_at⟩
end
end MX
set_option maxHeartbeats 1000000
/-! MX, part 4: subscripts, slices, calls of built-ins, methods of lists, stores. -/
namespace MX
open PySem L2 PyProof.Rows
section
variable {K : PySem.W.Frag} {ca : CA} {F G H : Hp} {r : List Addr} {st : Sto}
theorem RVs.atI {xs : List V} {ds : List D} (q : RVs K ca F r xs ds) {i : Int} {z : D} (h : atI ds i = some z) : ∃ v, L2.atI xs i = some v ∧ RV K ca F r v z := by
  unfold L2.atI at h ⊢
  obtain ⟨j, h1, h2⟩ := Option.bind_eq_some_iff.mp h
  obtain ⟨v, h3, h4⟩ := q.get h2
  exact ⟨v, by rw [q.length, h1]; exact h3, h4⟩
/-- an item by its place -/
def ix1 (d : D) (i : Int) (st : Sto) : Option D := match d with
  | .str s => if s.length ≤ LIM then (atI s.cps.toList i).map fun c => .str ⟨#[c]⟩ else none
  | d => (rdQ st d).bind fun ds => atI ds i
def ixD : Op2 := fun d e st => match e with
  | .int i => ix1 d i st
  | _ => none
theorem ix1_ne {d : D} {i : Int} (h : ∀ s, d ≠ .str s) : ix1 d i st = (rdQ st d).bind fun ds => atI ds i := by
  cases d with
  | str s => exact absurd rfl (h s)
  | _ => rfl
theorem ix_at : SimR K ca ixD (rIx K) := fun F r G H st x y d e z Q S rx ry hz k => by
  cases ry with
  | int i =>
    replace hz : ix1 d i st = some z := hz
    by_cases hs : ∃ s, d = .str s
    · obtain ⟨s, rfl⟩ := hs
      cases rx
      replace hz : (if s.length ≤ LIM then (atI s.cps.toList i).map fun c => D.str ⟨#[c]⟩ else none) = some z := hz
      by_cases c : s.length ≤ LIM
      · rw [if_pos c] at hz
        obtain ⟨u, h1, rfl⟩ := Option.map_eq_some_iff.mp hz
        exact .inr (.inr ⟨s, i, u, rfl, rfl, lim_sz c, h1, k F H _ (Evl.Ex.refl _) S (.str _)⟩)
      · rw [if_neg c] at hz; cases hz
    · rw [ix1_ne fun s e => hs ⟨s, e⟩] at hz
      obtain ⟨ds, hd, hz⟩ := Option.bind_eq_some_iff.mp hz
      obtain ⟨a, xs, e1, h3, q⟩ := rdQ_at S rx hd
      obtain ⟨v, h4, h5⟩ := q.atI hz
      rcases h3 with h3 | h3
      · exact .inl ⟨a, xs, i, v, e1, rfl, h3, h4, k F H _ (Evl.Ex.refl _) S h5⟩
      · exact .inr (.inl ⟨a, xs, i, v, e1, rfl, h3, h4, k F H _ (Evl.Ex.refl _) S h5⟩)
  | _ => cases hz
/-- the items of xs[lo:hi] -/
def cutD (xs : List D) (lo hi : Option Int) : List D := (xs.drop (HT.sIx xs.length 0 lo)).take (HT.sIx xs.length xs.length hi - HT.sIx xs.length 0 lo)
theorem RVs.cut {xs : List V} {ds : List D} (q : RVs K ca F r xs ds) (lo hi : Option Int) : RVs K ca F r (cutV xs lo hi) (cutD ds lo hi) := by
  unfold cutV cutD
  rw [q.length]
  exact (q.drop _).take _
end
section
variable {X : Cx} {ca : CA} {W : WX} {a b c e : Expr} {f g k : EM} {pos p2 : Pos} {lo hi : Option Expr} {m m2 : OM}
theorem me_ix (ha : ME X ca W a f) (hb : ME X ca W b g) (hs : PlainIx b := by intro _ _; rfl) : ME X ca W (.Subscript a b pos) (opM ixD f g) := by
  obtain ⟨ta, a1, a2⟩ := ha
  obtain ⟨tb, b1, b2⟩ := hb
  exact ⟨_, pe_ix ix_seq a1 b1 hs, sim_op ix_at a2 b2⟩
def noO : OM := fun _ st => .ok none st
def someO (f : EM) : OM := fun env st => (f env st).bind fun d s => match d with
  | .int i => .ok (some i) s
  | _ => .bad
theorem mo_none : MPt X ca W none noO := ⟨_, po_none, fun F r G σ H env st Q S E h => h F r H (Evl.Ex.refl _) (List.prefix_refl _) S⟩
theorem mo_some (h : ME X ca W e f) : MPt X ca W (some e) (someO f) := by
  obtain ⟨ta, a1, a2⟩ := h
  refine ⟨_, po_some a1, fun F r G σ H env st Q S E h => ?_⟩
  refine a2 F r G σ H env st _ S E (Post.imp (Post.bind h) fun F1 r1 H1 s1 d e1 p1 S1 h1 v rv => ?_)
  cases rv with
  | int i => exact ⟨i, rfl, h1 F1 r1 H1 (Evl.Ex.refl _) (List.prefix_refl _) S1⟩
  | _ => exact h1.elim
/-- a slice of a list: a new list -/
def slL (d : D) (lo hi : Option Int) (st : Sto) : Option (List D) := (rdL st d).map fun ds => cutD ds lo hi
def slM (f : EM) (m m2 : OM) : AM := fun env st => (f env st).bind fun d s => (m env s).bind fun lo s => (m2 env s).bind fun hi s => Res.ofL (slL d lo hi s) s
theorem ml_sl (ha : ME X ca W a f) (hl : MPt X ca W lo m) (hh : MPt X ca W hi m2) : ML X ca W (.Subscript a (.Slice lo hi none p2) pos) (slM f m m2) := by
  obtain ⟨ta, a1, a2⟩ := ha
  obtain ⟨tb, b1, b2⟩ := hl
  obtain ⟨tc, c1, c2⟩ := hh
  refine ⟨_, pe_slice sl_list a1 b1 c1, fun F r G σ H env st Q S E h => ?_⟩
  refine a2 F r G σ H env st _ S E (Post.imp (Post.bind h) fun F1 r1 H1 s1 d e1 p1 S1 h1 v rv => ?_)
  refine b2 F1 r1 G σ H1 env s1 _ S1 (E.mono e1 p1) (Post.imp (Post.bind h1) fun F2 r2 H2 s2 o1 e2 p2 S2 h2 => ?_)
  refine c2 F2 r2 G σ H2 env s2 _ S2 ((E.mono e1 p1).mono e2 p2) (Post.imp (Post.bind h2) fun F3 r3 H3 s3 o2 e3 p3 S3 h3 => ?_)
  cases z : slL d o1 o2 s3 with
  | none => rw [z] at h3; exact h3.elim
  | some zs =>
    rw [z] at h3
    obtain ⟨ds, hd, rfl⟩ := Option.map_eq_some_iff.mp z
    obtain ⟨l, xs, rfl, h4, q⟩ := rdL_at S3 (rv.mono (e2.trans e3) (p2.trans p3)) hd
    exact ⟨l, xs, rfl, h4, fun p hp => h3 F3 r3 _ (Evl.Ex.refl _) (List.prefix_refl _) (S3.upd _ (S3.free hp)) p _ upd_same (S3.free hp) (q.cut _ _)⟩
/-- a slice of a text, of a tuple (not the whole of it) -/
def slS (d : D) (lo hi : Option Int) : Option D := match d with
  | .str z => if z.length ≤ LIM then some (.str (cutS z lo hi)) else none
  | .tup ds => if HT.sIx ds.length 0 lo = 0 ∧ HT.sIx ds.length ds.length hi = ds.length then none else some (.tup (cutD ds lo hi))
  | _ => none
def slSM (f : EM) (m m2 : OM) : EM := fun env st => (f env st).bind fun d s => (m env s).bind fun lo s => (m2 env s).bind fun hi s => Res.of (slS d lo hi) s
theorem me_slS (ha : ME X ca W a f) (hl : MPt X ca W lo m) (hh : MPt X ca W hi m2) : ME X ca W (.Subscript a (.Slice lo hi none p2) pos) (slSM f m m2) := by
  obtain ⟨ta, a1, a2⟩ := ha
  obtain ⟨tb, b1, b2⟩ := hl
  obtain ⟨tc, c1, c2⟩ := hh
  refine ⟨_, pe_slice (SlR.or sl_str sl_tup) a1 b1 c1, fun F r G σ H env st Q S E h => ?_⟩
  refine a2 F r G σ H env st _ S E (Post.imp (Post.bind h) fun F1 r1 H1 s1 d e1 p1 S1 h1 v rv => ?_)
  refine b2 F1 r1 G σ H1 env s1 _ S1 (E.mono e1 p1) (Post.imp (Post.bind h1) fun F2 r2 H2 s2 o1 e2 p2 S2 h2 => ?_)
  refine c2 F2 r2 G σ H2 env s2 _ S2 ((E.mono e1 p1).mono e2 p2) (Post.imp (Post.bind h2) fun F3 r3 H3 s3 o2 e3 p3 S3 h3 => ?_)
  have rv3 := rv.mono (e2.trans e3) (p2.trans p3)
  cases rv3 with
  | str z =>
    replace h3 : Post X.K ca W σ F3 r3 G (Res.of (if z.length ≤ LIM then some (D.str (cutS z o1 o2)) else none) s3) (WV X.K ca Q) := h3
    by_cases c : z.length ≤ LIM
    · rw [if_pos c] at h3
      exact .inl ⟨z, rfl, lim_sz c, h3 F3 r3 H3 (Evl.Ex.refl _) (List.prefix_refl _) S3 _ (.str _)⟩
    · rw [if_neg c] at h3; exact h3.elim
  | tup ht q =>
    rename_i t xs ds
    replace h3 : Post X.K ca W σ F3 r3 G (Res.of (if HT.sIx ds.length 0 o1 = 0 ∧ HT.sIx ds.length ds.length o2 = ds.length then none else some (.tup (cutD ds o1 o2))) s3) (WV X.K ca Q) := h3
    by_cases c : HT.sIx ds.length 0 o1 = 0 ∧ HT.sIx ds.length ds.length o2 = ds.length
    · rw [if_pos c] at h3; exact h3.elim
    · rw [if_neg c] at h3
      refine .inr ⟨t, xs, rfl, Evl.ex_t S3.exF ht, by rw [q.length]; exact c, fun p hp => ?_⟩
      exact h3 _ r3 _ (Evl.Ex.new (S3.fresh_F hp)) (List.prefix_refl _) (S3.newF hp) _ (.tup (Evl.st_of upd_same) ((q.cut _ _).mono (Evl.Ex.new (S3.fresh_F hp)) (List.prefix_refl _)))
  | _ => exact h3.elim
/-- xs[::-1] -/
def revM (f : EM) : AM := fun env st => (f env st).bind fun d s => Res.ofL ((rdL s d).map List.reverse) s
theorem ml_rev {k : Nat} {p1 p2 p3 pos : Pos} (ha : ME X ca W e f) : ML X ca W (.Subscript e (.Slice none none (some (.UnaryOp .USub (.Constant (.int 1) k p1) p2)) p3) pos) (revM f) := by
  obtain ⟨ta, a1, a2⟩ := ha
  refine ⟨_, pe_revL a1, fun F r G σ H env st Q S E h => ?_⟩
  refine a2 F r G σ H env st _ S E (Post.imp (Post.bind h) fun F1 r1 H1 s1 d e1 p1 S1 h1 v rv => ?_)
  cases z : rdL s1 d with
  | none => rw [z] at h1; exact h1.elim
  | some ds =>
    rw [z] at h1
    obtain ⟨l, xs, rfl, h4, q⟩ := rdL_at S1 rv z
    exact ⟨l, xs, rfl, h4, fun p hp => h1 F1 r1 _ (Evl.Ex.refl _) (List.prefix_refl _) (S1.upd _ (S1.free hp)) p _ upd_same (S1.free hp) q.reverse⟩
/-! ### calls of built-ins -/
end
structure MCall (X : Cx) (ca : CA) (f : Value) (g : List D → Sto → Option D) : Prop where
  h : ∃ q, CallR X f q ∧ SimC X.K ca g q
structure MCallL (X : Cx) (ca : CA) (f : Value) (g : List D → Sto → Option (List D)) : Prop where
  h : ∃ q, CallR X f q ∧ SimCL X.K ca g q
def callC (g : List D → Sto → Option D) (a : AM) : EM := fun env st => (a env st).bind fun ds s => Res.of (g ds s) s
def callL (g : List D → Sto → Option (List D)) (a : AM) : AM := fun env st => (a env st).bind fun ds s => Res.ofL (g ds s) s
section
variable {X : Cx} {ca : CA} {W : WX} {e : Expr} {es : List Expr} {am : AM} {x : Str} {p pos : Pos} {id : String} {g : List D → Sto → Option D} {gl : List D → Sto → Option (List D)}
theorem sim_call {K : PySem.W.Frag} {q : List V → Hp → VK → Prop} {ta : TA} (hq : SimC K ca g q) (ha : SimA K ca W ta am) : SimE K ca W (tCB q ta) (callC g am) := fun F r G σ H env st Q S E h => by
  refine ha F r G σ H env st _ S E (Post.imp (Post.bind h) fun F1 r1 H1 s1 d e1 p1 S1 h1 v rv => ?_)
  cases z : g d s1 with
  | none => rw [z] at h1; exact h1.elim
  | some zz =>
    rw [z] at h1
    exact hq F1 r1 G H1 s1 v d zz _ S1 rv z fun F' H' v' e' S' rv' => h1 F' r1 H' e' (List.prefix_refl _) S' v' rv'
theorem sim_callL {K : PySem.W.Frag} {q : List V → Hp → VK → Prop} {ta : TA} (hq : SimCL K ca gl q) (ha : SimA K ca W ta am) : SimL K ca W (tCB q ta) (callL gl am) := fun F r G σ H env st Q S E h => by
  refine ha F r G σ H env st _ S E (Post.imp (Post.bind h) fun F1 r1 H1 s1 d e1 p1 S1 h1 v rv => ?_)
  cases z : gl d s1 with
  | none => rw [z] at h1; exact h1.elim
  | some zz =>
    rw [z] at h1
    exact hq F1 r1 G H1 s1 v d zz _ S1 rv z fun H' p ys S' hp fr rv' => h1 F1 r1 H' (Evl.Ex.refl _) (List.prefix_refl _) S' p ys hp fr rv'
theorem me_callB (hc : MCall X ca (.builtin id) g) (hm : X.mg x = none) (ha : MA X ca W (e :: es) am) (hv : bootBuiltins x = some (.builtin id) := by decide +kernel) (hg : Gl X x := by rfl) (hn : x ≠ "__name__" := by decide) (hdb : (x == ("__debug__" : Str)) = false := by decide)
    (he : starEach (e :: es) X.env = (false, eval e X.env) :: starEach es X.env := by rfl) (hpl : (backTo pos (starEach es X.env)).any (·.1) = false := by rfl) : ME X ca W (.Call (.Name x p) (e :: es) [] pos) (callC g am) := by
  obtain ⟨q, h1, h2⟩ := hc
  obtain ⟨ta, a1, a2⟩ := ha
  exact ⟨_, pe_callB h1 hg hm hv a1 hn hdb he hpl, sim_call h2 a2⟩
theorem ml_callB (hc : MCallL X ca (.builtin id) gl) (hm : X.mg x = none) (ha : MA X ca W (e :: es) am) (hv : bootBuiltins x = some (.builtin id) := by decide +kernel) (hg : Gl X x := by rfl) (hn : x ≠ "__name__" := by decide) (hdb : (x == ("__debug__" : Str)) = false := by decide)
    (he : starEach (e :: es) X.env = (false, eval e X.env) :: starEach es X.env := by rfl) (hpl : (backTo pos (starEach es X.env)).any (·.1) = false := by rfl) : ML X ca W (.Call (.Name x p) (e :: es) [] pos) (callL gl am) := by
  obtain ⟨q, h1, h2⟩ := hc
  obtain ⟨ta, a1, a2⟩ := ha
  exact ⟨_, pe_callB h1 hg hm hv a1 hn hdb he hpl, sim_callL h2 a2⟩
theorem me_callT (hc : MCall X ca (.type id) g) (hm : X.mg x = none) (ha : MA X ca W (e :: es) am) (hv : bootBuiltins x = some (.type id) := by decide +kernel) (hg : Gl X x := by rfl) (hn : x ≠ "__name__" := by decide) (hdb : (x == ("__debug__" : Str)) = false := by decide)
    (he : starEach (e :: es) X.env = (false, eval e X.env) :: starEach es X.env := by rfl) (hpl : (backTo pos (starEach es X.env)).any (·.1) = false := by rfl) : ME X ca W (.Call (.Name x p) (e :: es) [] pos) (callC g am) := by
  obtain ⟨q, h1, h2⟩ := hc
  obtain ⟨ta, a1, a2⟩ := ha
  exact ⟨_, pe_callTy h1 hg hm hv a1 hn hdb he hpl, sim_call h2 a2⟩
theorem ml_callT (hc : MCallL X ca (.type id) gl) (hm : X.mg x = none) (ha : MA X ca W (e :: es) am) (hv : bootBuiltins x = some (.type id) := by decide +kernel) (hg : Gl X x := by rfl) (hn : x ≠ "__name__" := by decide) (hdb : (x == ("__debug__" : Str)) = false := by decide)
    (he : starEach (e :: es) X.env = (false, eval e X.env) :: starEach es X.env := by rfl) (hpl : (backTo pos (starEach es X.env)).any (·.1) = false := by rfl) : ML X ca W (.Call (.Name x p) (e :: es) [] pos) (callL gl am) := by
  obtain ⟨q, h1, h2⟩ := hc
  obtain ⟨ta, a1, a2⟩ := ha
  exact ⟨_, pe_callTy h1 hg hm hv a1 hn hdb he hpl, sim_callL h2 a2⟩
/-! len, list, int, sum, min, max, abs -/
def len1 (d : D) (st : Sto) : Option D := match d with
  | .str s => if s.length ≤ LIM then some (.int s.length) else none
  | d => (rdQ st d).map fun xs => .int xs.length
def lenD : List D → Sto → Option D := fun ds st => match ds with
  | [d] => len1 d st
  | _ => none
theorem len1_ne {st : Sto} {d : D} (h : ∀ s, d ≠ .str s) : len1 d st = (rdQ st d).map fun xs => .int xs.length := by
  cases d with
  | str s => exact absurd rfl (h s)
  | _ => rfl
theorem RVs.one {K : PySem.W.Frag} {F : Hp} {r : List Addr} {xs : List V} {d : D} : RVs K ca F r xs [d] → ∃ x, xs = [x] ∧ RV K ca F r x d
  | .cons h .nil => ⟨_, rfl, h⟩
theorem RVs.two {K : PySem.W.Frag} {F : Hp} {r : List Addr} {xs : List V} {d e : D} : RVs K ca F r xs [d, e] → ∃ x y, xs = [x, y] ∧ RV K ca F r x d ∧ RV K ca F r y e
  | .cons h (.cons q .nil) => ⟨_, _, rfl, h, q⟩
theorem RVs.zero {K : PySem.W.Frag} {F : Hp} {r : List Addr} {xs : List V} : RVs K ca F r xs [] → xs = []
  | .nil => rfl
theorem mc_len : MCall X ca (.builtin "len") lenD := ⟨_, CallR.or call_len_seq call_len_str, fun F r G H st xs ds z Q S rv hz k => by
  match ds, hz with
  | [d], hz =>
    obtain ⟨x, rfl, rx⟩ := rv.one
    replace hz : len1 d st = some z := hz
    by_cases hs : ∃ s, d = .str s
    · obtain ⟨s, rfl⟩ := hs
      replace hz : (if s.length ≤ LIM then some (D.int s.length) else none) = some z := hz
      cases rx
      by_cases c : s.length ≤ LIM
      · rw [if_pos c] at hz
        cases hz
        exact .inr ⟨s, rfl, lim_sz c, k F H _ (Evl.Ex.refl _) S (.int _)⟩
      · rw [if_neg c] at hz; cases hz
    · rw [len1_ne fun s e => hs ⟨s, e⟩] at hz
      obtain ⟨es, hd, rfl⟩ := Option.map_eq_some_iff.mp hz
      obtain ⟨a, ys, rfl, h3, q⟩ := rdQ_at S rx hd
      refine .inl ⟨a, ys, rfl, h3, k F H _ (Evl.Ex.refl _) S ?_⟩
      rw [q.length]
      exact .int _⟩
def listD : List D → Sto → Option (List D) := fun ds st => match ds with
  | [d] => rdQ st d
  | _ => none
theorem mc_list : MCallL X ca (.type "list") listD := ⟨_, call_list_of, fun F r G H st xs ds zs Q S rv hz k => by
  match ds, hz with
  | [d], hz =>
    obtain ⟨x, rfl, rx⟩ := rv.one
    obtain ⟨a, ys, rfl, h3, q⟩ := rdQ_at S rx hz
    exact ⟨a, ys, rfl, h3, fun p hp => k _ p _ (S.upd _ (S.free hp)) upd_same (S.free hp) q⟩⟩
def intD : List D → Sto → Option D := fun ds _ => match ds with
  | [.int i] => some (.int i)
  | [.bl b] => some (.int (if b then 1 else 0))
  | _ => none
theorem mc_int : MCall X ca (.type "int") intD := ⟨_, call_int1, fun F r G H st xs ds z Q S rv hz k => by
  match ds, hz with
  | [.int i], hz =>
    obtain ⟨x, rfl, rx⟩ := rv.one
    cases rx
    cases hz
    exact .inl ⟨i, rfl, k F H _ (Evl.Ex.refl _) S (.int _)⟩
  | [.bl i], hz =>
    obtain ⟨x, rfl, rx⟩ := rv.one
    cases rx
    cases hz
    exact .inr ⟨i, rfl, k F H _ (Evl.Ex.refl _) S (.int _)⟩⟩
def sumD : List D → Sto → Option D := fun ds st => match ds with
  | [d] => (rdL st d).bind fun xs => (intsOf xs).map fun ns => .int ns.sum
  | _ => none
theorem ints_at {K : PySem.W.Frag} {F G H : Hp} {r : List Addr} {st : Sto} {v : V} {d : D} {ds : List D} {ns : List Int} (S : SR K ca F r G H st) (q : RV K ca F r v d) (h : rdL st d = some ds) (h2 : intsOf ds = some ns) : ∃ a, v = .ref a ∧ SqL K H a (ns.map V.int) := by
  obtain ⟨a, xs, e, h3, q3⟩ := rdL_at S q h
  rw [intsOf_some h2] at q3
  rw [RVs.ints_inv q3] at h3
  exact ⟨a, e, h3⟩
theorem mc_sum (hc : X.calm = true) : MCall X ca (.builtin "sum") sumD := ⟨_, cr_sum hc, fun F r G H st xs ds z Q S rv hz k => by
  match ds, hz with
  | [d], hz =>
    obtain ⟨x, rfl, rx⟩ := rv.one
    obtain ⟨es, h1, h2⟩ := Option.bind_eq_some_iff.mp (show (rdL st d).bind (fun xs => (intsOf xs).map fun ns => D.int ns.sum) = some z from hz)
    obtain ⟨ns, h3, rfl⟩ := Option.map_eq_some_iff.mp h2
    obtain ⟨a, rfl, h4⟩ := ints_at S rx h1 h3
    exact ⟨a, ns, rfl, h4, k F H _ (Evl.Ex.refl _) S (.int _)⟩⟩
def maxN : List Int → Int
  | [] => 0
  | [a] => a
  | a :: b :: l => max a (maxN (b :: l))
def minN : List Int → Int
  | [] => 0
  | [a] => a
  | a :: b :: l => min a (minN (b :: l))
theorem maxN_mem : ∀ (ns : List Int), ns ≠ [] → maxN ns ∈ ns ∧ ∀ y ∈ ns, y ≤ maxN ns
  | [], h => absurd rfl h
  | [a], _ => by simp [maxN]
  | a :: b :: l, _ => by
    have ih := maxN_mem (b :: l) (by simp)
    unfold maxN
    refine ⟨?_, fun y hy => ?_⟩
    · rcases Int.le_total a (maxN (b :: l)) with h | h
      · rw [Int.max_eq_right h]; exact List.mem_cons_of_mem _ ih.1
      · rw [Int.max_eq_left h]; exact List.mem_cons_self
    · rcases List.mem_cons.mp hy with h | h
      · subst h; exact Int.le_max_left _ _
      · exact Int.le_trans (ih.2 y h) (Int.le_max_right _ _)
theorem minN_mem : ∀ (ns : List Int), ns ≠ [] → minN ns ∈ ns ∧ ∀ y ∈ ns, minN ns ≤ y
  | [], h => absurd rfl h
  | [a], _ => by simp [minN]
  | a :: b :: l, _ => by
    have ih := minN_mem (b :: l) (by simp)
    unfold minN
    refine ⟨?_, fun y hy => ?_⟩
    · rcases Int.le_total a (minN (b :: l)) with h | h
      · rw [Int.min_eq_left h]; exact List.mem_cons_self
      · rw [Int.min_eq_right h]; exact List.mem_cons_of_mem _ ih.1
    · rcases List.mem_cons.mp hy with h | h
      · subst h; exact Int.min_le_left _ _
      · exact Int.le_trans (Int.min_le_right _ _) (ih.2 y h)
theorem max_is {ns : List Int} {m : Int} (h : m ∈ ns) (h2 : ∀ y ∈ ns, y ≤ m) : m = maxN ns := by
  have := maxN_mem ns (by intro e; rw [e] at h; simp at h)
  have h3 := h2 _ this.1
  have h4 := this.2 _ h
  omega
theorem min_is {ns : List Int} {m : Int} (h : m ∈ ns) (h2 : ∀ y ∈ ns, m ≤ y) : m = minN ns := by
  have := minN_mem ns (by intro e; rw [e] at h; simp at h)
  have h3 := h2 _ this.1
  have h4 := this.2 _ h
  omega
def mm2 (g2 : Int → Int → Int) (d e : D) : Option D := match d, e with
  | .int i, .int j => some (.int (g2 i j))
  | _, _ => none
def mm1 (g : List Int → Int) (d : D) (st : Sto) : Option D := (rdL st d).bind fun xs => (intsOf xs).bind fun ns => if 0 < ns.length then some (.int (g ns)) else none
def mmD (g : List Int → Int) (g2 : Int → Int → Int) : List D → Sto → Option D := fun ds st => match ds with
  | [d, e] => mm2 g2 d e
  | [d] => mm1 g d st
  | _ => none
def maxD := mmD maxN fun i j => if j > i then j else i
def minD := mmD minN fun i j => if j < i then j else i
theorem mc_max (hc : X.calm = true) : MCall X ca (.builtin "max") maxD := ⟨_, CallR.or (call_max2 hc) (cr_max hc), fun F r G H st xs ds z Q S rv hz k => by
  match ds, hz with
  | [d, e], hz =>
    obtain ⟨x, y, rfl, rx, ry⟩ := rv.two
    cases rx with
    | int i =>
      cases ry with
      | int j =>
        cases hz
        exact .inl ⟨i, j, rfl, k F H _ (Evl.Ex.refl _) S (.int _)⟩
      | _ => cases hz
    | _ => cases hz
  | [d], hz =>
    obtain ⟨x, rfl, rx⟩ := rv.one
    obtain ⟨es, h1, h2⟩ := Option.bind_eq_some_iff.mp (show mm1 maxN d st = some z from hz)
    obtain ⟨ns, h3, h5⟩ := Option.bind_eq_some_iff.mp h2
    obtain ⟨a, rfl, h4⟩ := ints_at S rx h1 h3
    by_cases c : 0 < ns.length
    · rw [if_pos c] at h5
      cases h5
      refine .inr ⟨a, ns, rfl, h4, c, fun m hm hy => ?_⟩
      rw [max_is hm hy]
      exact k F H _ (Evl.Ex.refl _) S (.int _)
    · rw [if_neg c] at h5; cases h5⟩
theorem mc_min (hc : X.calm = true) : MCall X ca (.builtin "min") minD := ⟨_, CallR.or (call_min2 hc) (cr_min hc), fun F r G H st xs ds z Q S rv hz k => by
  match ds, hz with
  | [d, e], hz =>
    obtain ⟨x, y, rfl, rx, ry⟩ := rv.two
    cases rx with
    | int i =>
      cases ry with
      | int j =>
        cases hz
        exact .inl ⟨i, j, rfl, k F H _ (Evl.Ex.refl _) S (.int _)⟩
      | _ => cases hz
    | _ => cases hz
  | [d], hz =>
    obtain ⟨x, rfl, rx⟩ := rv.one
    obtain ⟨es, h1, h2⟩ := Option.bind_eq_some_iff.mp (show mm1 minN d st = some z from hz)
    obtain ⟨ns, h3, h5⟩ := Option.bind_eq_some_iff.mp h2
    obtain ⟨a, rfl, h4⟩ := ints_at S rx h1 h3
    by_cases c : 0 < ns.length
    · rw [if_pos c] at h5
      cases h5
      refine .inr ⟨a, ns, rfl, h4, c, fun m hm hy => ?_⟩
      rw [min_is hm hy]
      exact k F H _ (Evl.Ex.refl _) S (.int _)
    · rw [if_neg c] at h5; cases h5⟩
def absD : List D → Sto → Option D := fun ds _ => match ds with
  | [.int i] => some (.int (if i < 0 then -i else i))
  | _ => none
theorem mc_abs : MCall X ca (.builtin "abs") absD := ⟨_, call_abs, fun F r G H st xs ds z Q S rv hz k => by
  match ds, hz with
  | [.int i], hz =>
    obtain ⟨x, rfl, rx⟩ := rv.one
    cases rx
    cases hz
    exact ⟨i, rfl, k F H _ (Evl.Ex.refl _) S (.int _)⟩⟩
/-! sorted(xs), sorted(xs, reverse=True) of ints -/
def insI (a : Int) : List Int → List Int
  | [] => [a]
  | b :: l => if a ≤ b then a :: b :: l else b :: insI a l
def isort : List Int → List Int
  | [] => []
  | a :: l => insI a (isort l)
theorem insI_perm (a : Int) : ∀ l : List Int, (insI a l).Perm (a :: l)
  | [] => List.Perm.refl _
  | b :: l => by
    unfold insI
    split
    · exact List.Perm.refl _
    · exact ((insI_perm a l).cons b).trans (List.Perm.swap a b l)
theorem isort_perm : ∀ l : List Int, (isort l).Perm l
  | [] => List.Perm.refl _
  | a :: l => (insI_perm a _).trans ((isort_perm l).cons a)
theorem insI_le (a : Int) : ∀ {l : List Int}, l.Pairwise (· ≤ ·) → (insI a l).Pairwise (· ≤ ·)
  | [], _ => by simp [insI]
  | b :: l, h => by
    unfold insI
    rw [List.pairwise_cons] at h
    split
    · rename_i hab
      rw [List.pairwise_cons]
      refine ⟨fun c hc => ?_, by rw [List.pairwise_cons]; exact h⟩
      rcases List.mem_cons.mp hc with e | e
      · subst e; exact hab
      · exact Int.le_trans hab (h.1 c e)
    · rename_i hab
      rw [List.pairwise_cons]
      refine ⟨fun c hc => ?_, insI_le a h.2⟩
      rcases List.mem_cons.mp ((insI_perm a l).subset hc) with e | e
      · subst e; omega
      · exact h.1 c e
theorem isort_le : ∀ l : List Int, (isort l).Pairwise (· ≤ ·)
  | [] => List.Pairwise.nil
  | a :: l => insI_le a (isort_le l)
theorem sorted_uniq : ∀ {l l' : List Int}, l.Perm l' → l.Pairwise (· ≤ ·) → l'.Pairwise (· ≤ ·) → l = l'
  | [], l', p, _, _ => by simpa using p.length_eq.symm
  | a :: l, [], p, _, _ => by simpa using p.length_eq
  | a :: l, b :: l', p, h, h' => by
    rw [List.pairwise_cons] at h h'
    have e : a = b := by
      have h1 : a ∈ b :: l' := p.subset List.mem_cons_self
      have h2 : b ∈ a :: l := p.symm.subset List.mem_cons_self
      rcases List.mem_cons.mp h1 with e | e
      · exact e
      · rcases List.mem_cons.mp h2 with e2 | e2
        · exact e2.symm
        · have := h.1 b e2
          have := h'.1 a e
          omega
    subst e
    rw [sorted_uniq (List.Perm.cons_inv p) h.2 h'.2]
def sortD : List D → Sto → Option (List D) := fun ds st => match ds with
  | [d] => (rdL st d).bind fun xs => (intsOf xs).map fun ns => (isort ns).map D.int
  | _ => none
theorem mc_sorted : MCallL X ca (.builtin "sorted") sortD := ⟨_, cr_sortedI, fun F r G H st xs ds zs Q S rv hz k => by
  match ds, hz with
  | [d], hz =>
    obtain ⟨x, rfl, rx⟩ := rv.one
    obtain ⟨es, h1, h2⟩ := Option.bind_eq_some_iff.mp (show (rdL st d).bind (fun xs => (intsOf xs).map fun ns => (isort ns).map D.int) = some zs from hz)
    obtain ⟨ns, h3, rfl⟩ := Option.map_eq_some_iff.mp h2
    obtain ⟨a, rfl, h4⟩ := ints_at S rx h1 h3
    refine ⟨a, ns, rfl, h4, fun ns' p hp hs hn => ?_⟩
    rw [sorted_uniq (hp.trans (isort_perm ns).symm) hs (isort_le ns)]
    exact k _ p _ (S.upd _ (S.free hn)) upd_same (S.free hn) (RVs.ints _)⟩
/-- sorted(xs, reverse=True) -/
def sortRM (am : AM) : AM := fun env st => (am env st).bind fun ds s => Res.ofL ((sortD ds s).map List.reverse) s
theorem ml_sortR {p1 p2 : Pos} {k : Nat} (hm : X.mg "sorted" = none) (ha : MA X ca W [e] am) (hg : Gl X "sorted" := by rfl) (he0 : backTo pos (starEach [e] X.env) = (false, eval e X.env) :: backTo pos (starEach [] X.env) := by rfl) (hpl : (backTo pos (starEach [e] X.env)).any (·.1) = false := by rfl)
    (hall : (backToKw pos (keywordEach [⟨some "reverse", .Constant (.bool true) k p1, p2⟩] X.env)).all (·.1.isSome) = true := by rfl) (hks : (backToKw pos (keywordEach [⟨some "reverse", .Constant (.bool true) k p1, p2⟩] X.env)).filterMap (·.1) = [Str.ofString "reverse"] := by rfl) :
    ML X ca W (.Call (.Name "sorted" p) [e] [⟨some "reverse", .Constant (.bool true) k p1, p2⟩] pos) (sortRM am) := by
  obtain ⟨ta, a1, a2⟩ := ha
  refine ⟨_, pe_callBK (cr_sortedRev (b := true)) hg hm (by decide +kernel) a1 (pk_cons pe_bl pk_nil) (by decide) (by decide) he0 hpl, fun F r G σ H env st Q S E h => ?_⟩
  refine a2 F r G σ H env st _ S E (Post.imp (Post.bind h) fun F1 r1 H1 s1 ds e1 p1 S1 h1 vs rv => ?_)
  match ds, h1 with
  | [d], h1 =>
    obtain ⟨x, rfl, rx⟩ := rv.one
    cases z1 : rdL s1 d with
    | none =>
      have : sortD [d] s1 = none := by show (rdL s1 d).bind _ = none; rw [z1]; rfl
      rw [this] at h1; exact h1.elim
    | some es =>
      cases z2 : intsOf es with
      | none =>
        have : sortD [d] s1 = none := by show (rdL s1 d).bind _ = none; rw [z1]; show (intsOf es).map _ = none; rw [z2]; rfl
        rw [this] at h1; exact h1.elim
      | some ns =>
        have : sortD [d] s1 = some ((isort ns).map D.int) := by show (rdL s1 d).bind _ = _; rw [z1]; show (intsOf es).map _ = _; rw [z2]; rfl
        rw [this] at h1
        obtain ⟨a, rfl, h4⟩ := ints_at S1 rx z1 z2
        refine ⟨a, ns, rfl, rfl, h4, fun ns' p hp hs hn => ?_⟩
        have e2 : ns' = (isort ns).reverse := by
          have h5 : ns'.reverse.Pairwise (· ≤ ·) := by rw [List.pairwise_reverse]; exact hs
          have := sorted_uniq (((List.reverse_perm ns').trans hp).trans (isort_perm ns).symm) h5 (isort_le ns)
          rw [← this, List.reverse_reverse]
        rw [e2]
        refine h1 F1 r1 _ (Evl.Ex.refl _) (List.prefix_refl _) (S1.upd _ (S1.free hn)) p _ upd_same (S1.free hn) ?_
        rw [← List.map_reverse]
        exact RVs.ints _
  | [], h1 => exact h1.elim
  | _ :: _ :: _, h1 => exact h1.elim
end
end MX
set_option maxHeartbeats 1000000
/-! MX, part 5: methods of lists, stores, attributes, isinstance. -/
namespace MX
open PySem L2 PyProof.Rows
structure MMeth (X : Cx) (ca : CA) (T : String) (id : String) (g : D → List D → Sto → Option (D × Sto)) : Prop where
  h : ∃ q, MtR X id q ∧ SimM X.K ca T g q
def tyL (d : D) (st : Sto) : Bool := (rdL st d).isSome
def tyS (d : D) (_ : Sto) : Bool := match d with
  | .str _ => true
  | _ => false
def methC (ty : D → Sto → Bool) (g : D → List D → Sto → Option (D × Sto)) (f : EM) (a : AM) : EM := fun env st => (f env st).bind fun d s => if ty d s = true then (a env s).bind fun ds s2 => Res.ofM (g d ds s2) else .bad
def TyOk (K : PySem.W.Frag) (ca : CA) (T : String) (ty : D → Sto → Bool) : Prop := ∀ F r G H st v d, SR K ca F r G H st → RV K ca F r v d → ty d st = true → tyV K T v H
theorem ty_l {K : PySem.W.Frag} {ca : CA} : TyOk K ca "list" tyL := fun F r G H st v d S rv h => by
  unfold tyL at h
  cases z : rdL st d with
  | none => rw [z] at h; cases h
  | some ds =>
    obtain ⟨a, xs, rfl, h3, _⟩ := rdL_at S rv z
    exact .inl ⟨rfl, xs, h3⟩
theorem ty_s {K : PySem.W.Frag} {ca : CA} : TyOk K ca "str" tyS := fun F r G H st v d S rv h => by
  cases rv with
  | str x => rfl
  | _ => cases h
section
variable {X : Cx} {ca : CA} {W : WX} {o e : Expr} {es : List Expr} {f : EM} {am : AM} {name : Str} {apos cpos : Pos} {T id : String} {g : D → List D → Sto → Option (D × Sto)} {ty : D → Sto → Bool}
theorem me_bm (ht : TyOk X.K ca T ty) (pa : PlainAttrs T) (slot : Slot T name id) (hty : typeOf (.builtin id) = pure (.type "method_descriptor")) (hm : MMeth X ca T id g) (ho : ME X ca W o f) (ha : MA X ca W (e :: es) am)
    (hbase : attributeBase o name X.env (eval o X.env) = eval o X.env := by rfl)
    (hfew : ((backTo cpos (starEach (e :: es) X.env)).all (fun x => !x.1) && (backToKw cpos (keywordEach [] X.env)).all (fun x => x.1.isSome)
      && decide ((e :: es).length + ([] : List Keyword).length + (if ([] : List Keyword).isEmpty then 0 else 1) < 30)) = true := by rfl)
    (hline : (apos.endLine == cpos.line) = true := by rfl) (hs : starEach (e :: es) X.env = (false, eval e X.env) :: starEach es X.env := by rfl) (hplain : (backTo cpos (starEach es X.env)).any (·.1) = false := by rfl) :
    ME X ca W (.Call (.Attribute o name apos) (e :: es) [] cpos) (methC ty g f am) := by
  obtain ⟨q, h1, h2⟩ := hm
  obtain ⟨to, a1, a2⟩ := ho
  obtain ⟨ta, b1, b2⟩ := ha
  refine ⟨_, pe_bm pa slot hty h1 a1 b1 hbase hfew hline hs hplain, fun F r G σ H env st Q S E h => ?_⟩
  refine a2 F r G σ H env st _ S E (Post.imp (Post.bind h) fun F1 r1 H1 s1 d e1 p1 S1 k1 v rv => ?_)
  by_cases c : ty d s1 = true
  · rw [if_pos c] at k1
    refine ⟨ht F1 r1 G H1 s1 v d S1 rv c, b2 F1 r1 G σ H1 env s1 _ S1 (E.mono e1 p1) (Post.imp (Post.bind k1) fun F2 r2 H2 s2 ds e2 p2 S2 k2 vs rvs => ?_)⟩
    cases z : g d ds s2 with
    | none => rw [z] at k2; exact k2.elim
    | some zz =>
      obtain ⟨zd, zs⟩ := zz
      rw [z] at k2
      exact h2 F2 r2 G H2 s2 v vs d ds zd zs _ S2 (rv.mono e2 p2) rvs z fun F' H' v' e' S' rv' => k2 F' r2 H' e' (List.prefix_refl _) S' v' rv'
  · rw [if_neg c] at k1; exact k1.elim
theorem me_bm0 (ht : TyOk X.K ca T ty) (pa : PlainAttrs T) (slot : Slot T name id) (hty : typeOf (.builtin id) = pure (.type "method_descriptor")) (hm : MMeth X ca T id g) (ho : ME X ca W o f)
    (hbase : attributeBase o name X.env (eval o X.env) = eval o X.env := by rfl) (hline : (apos.endLine == cpos.line) = true := by rfl) : ME X ca W (.Call (.Attribute o name apos) [] [] cpos) (methC ty g f nilA) := by
  obtain ⟨q, h1, h2⟩ := hm
  obtain ⟨to, a1, a2⟩ := ho
  refine ⟨_, pe_bm0 pa slot hty h1 a1 hbase hline, fun F r G σ H env st Q S E h => ?_⟩
  refine a2 F r G σ H env st _ S E (Post.imp (Post.bind h) fun F1 r1 H1 s1 d e1 p1 S1 k1 v rv => ?_)
  by_cases c : ty d s1 = true
  · rw [if_pos c] at k1
    refine ⟨ht F1 r1 G H1 s1 v d S1 rv c, ?_⟩
    replace k1 : Post X.K ca W σ F1 r1 G (Res.ofM (g d [] s1)) (WV X.K ca Q) := k1
    cases z : g d [] s1 with
    | none => rw [z] at k1; exact k1.elim
    | some zz =>
      obtain ⟨zd, zs⟩ := zz
      rw [z] at k1
      exact h2 F1 r1 G H1 s1 v [] d [] zd zs _ S1 rv .nil z fun F' H' v' e' S' rv' => k1 F' r1 H' e' (List.prefix_refl _) S' v' rv'
  · rw [if_neg c] at k1; exact k1.elim
end
/-! ### methods of lists -/
/-- the owned list behind a handle -/
def owL (d : D) (st : Sto) : Option (Nat × List D) := match d with
  | .own k => match st[k]? with
    | some (.lst ds) => some (k, ds)
    | _ => none
  | _ => none
theorem owL_some {d : D} {st : Sto} {k : Nat} {ds : List D} (h : owL d st = some (k, ds)) : d = .own k ∧ st[k]? = some (.lst ds) := by
  unfold owL at h
  split at h
  · split at h
    · rename_i e
      cases h
      exact ⟨rfl, e⟩
    · cases h
  · cases h
theorem owL_own {st : Sto} {k : Nat} {ds : List D} (h : st[k]? = some (.lst ds)) : owL (.own k) st = some (k, ds) := by
  show (match st[k]? with
    | some (.lst ds) => some (k, ds)
    | _ => none) = _
  rw [h]
section
variable {X : Cx} {ca : CA} {K : PySem.W.Frag} {F G H : Hp} {r : List Addr} {st : Sto}
theorem owL_at (S : SR K ca F r G H st) {v : V} {d : D} {k : Nat} {ds : List D} (rv : RV K ca F r v d) (h : owL d st = some (k, ds)) : ∃ a xs, v = .ref a ∧ st[k]? = some (.lst ds) ∧ r[k]? = some a ∧ F a = none ∧ H a = some (.lst xs) ∧ RVs K ca F r xs ds := by
  obtain ⟨rfl, h1⟩ := owL_some h
  obtain ⟨a, rfl, ha⟩ := rv.own_inv
  obtain ⟨h0, xs, h2, q⟩ := S.ob k _ a h1 ha
  exact ⟨a, xs, rfl, h1, ha, h0, h2, q⟩
theorem SR.putL (S : SR K ca F r G H st) {k : Nat} {ds es : List D} {a : Addr} {ys : List V} (h1 : st[k]? = some (.lst ds)) (h2 : r[k]? = some a) (h0 : F a = none) (q : RVs K ca F r ys es) : SR K ca F r G (L2.upd H a (.lst ys)) (st.set k (.lst es)) :=
  S.put h1 rfl h2 ⟨h0, ys, rfl, q⟩
def appD : D → List D → Sto → Option (D × Sto) := fun d es st => match es with
  | [e] => (owL d st).bind fun p => if p.2.length < LIM then some (.non, st.set p.1 (.lst (p.2 ++ [e]))) else none
  | _ => none
theorem mm_append : MMeth X ca "list" "list.append" appD := ⟨_, mt_append, fun F r G H st x xs d ds z st' Q S rx rv hz k => by
  match ds, hz with
  | [e], hz =>
    obtain ⟨y, rfl, ry⟩ := rv.one
    obtain ⟨⟨j, es⟩, h1, h2⟩ := Option.bind_eq_some_iff.mp (show (owL d st).bind _ = some (z, st') from hz)
    obtain ⟨a, ys, rfl, h3, h4, h0, h5, q⟩ := owL_at S rx h1
    by_cases c : es.length < LIM
    · replace h2 : (if es.length < LIM then some (D.non, st.set j (.lst (es ++ [e]))) else none) = some (z, st') := h2
      rw [if_pos c] at h2
      cases h2
      exact ⟨a, ys, y, rfl, rfl, h5, lim_sz1 (by rw [q.length]; exact c), k F _ _ (Evl.Ex.refl _) (S.putL h3 h4 h0 (q.append (.cons ry .nil))) .non⟩
    · replace h2 : (if es.length < LIM then some (D.non, st.set j (.lst (es ++ [e]))) else none) = some (z, st') := h2
      rw [if_neg c] at h2; cases h2⟩
def insD : D → List D → Sto → Option (D × Sto) := fun d es st => match es with
  | [.int i, e] => (owL d st).bind fun p => if p.2.length < LIM ∧ 0 ≤ i ∧ i < 2 ^ 63 then some (.non, st.set p.1 (.lst (p.2.take i.toNat ++ [e] ++ p.2.drop i.toNat))) else none
  | _ => none
theorem mm_insert : MMeth X ca "list" "list.insert" insD := ⟨_, mt_insert, fun F r G H st x xs d ds z st' Q S rx rv hz k => by
  match ds, hz with
  | [.int i, e], hz =>
    obtain ⟨y, w, rfl, ry, rw'⟩ := rv.two
    cases ry
    obtain ⟨⟨j, es⟩, h1, h2⟩ := Option.bind_eq_some_iff.mp (show (owL d st).bind _ = some (z, st') from hz)
    obtain ⟨a, ys, rfl, h3, h4, h0, h5, q⟩ := owL_at S rx h1
    replace h2 : (if es.length < LIM ∧ 0 ≤ i ∧ i < 2 ^ 63 then some (D.non, st.set j (.lst (es.take i.toNat ++ [e] ++ es.drop i.toNat))) else none) = some (z, st') := h2
    by_cases c : es.length < LIM ∧ 0 ≤ i ∧ i < 2 ^ 63
    · rw [if_pos c] at h2
      cases h2
      exact ⟨a, ys, i, w, rfl, rfl, h5, lim_sz1 (by rw [q.length]; exact c.1), c.2.1, c.2.2, k F _ _ (Evl.Ex.refl _) (S.putL h3 h4 h0 (((q.take _).append (.cons rw' .nil)).append (q.drop _))) .non⟩
    · rw [if_neg c] at h2; cases h2⟩
def extD : D → List D → Sto → Option (D × Sto) := fun d es st => match es with
  | [e] => (owL d st).bind fun p => (rdM st e).bind fun zs => if p.2.length + zs.length ≤ LIM then some (.non, st.set p.1 (.lst (p.2 ++ zs))) else none
  | _ => none
theorem mm_extend : MMeth X ca "list" "list.extend" extD := ⟨_, mt_extend, fun F r G H st x xs d ds z st' Q S rx rv hz k => by
  match ds, hz with
  | [e], hz =>
    obtain ⟨y, rfl, ry⟩ := rv.one
    obtain ⟨⟨j, es⟩, h1, h2⟩ := Option.bind_eq_some_iff.mp (show (owL d st).bind _ = some (z, st') from hz)
    obtain ⟨zs, h6, h7⟩ := Option.bind_eq_some_iff.mp h2
    obtain ⟨a, ys, rfl, h3, h4, h0, h5, q⟩ := owL_at S rx h1
    obtain ⟨b, us, rfl, h8, q2⟩ := rdM_at S ry h6
    replace h7 : (if es.length + zs.length ≤ LIM then some (D.non, st.set j (.lst (es ++ zs))) else none) = some (z, st') := h7
    by_cases c : es.length + zs.length ≤ LIM
    · rw [if_pos c] at h7
      cases h7
      exact ⟨a, b, ys, us, rfl, rfl, h5, h8, lim_sz (by rw [q.length, q2.length]; exact c), k F _ _ (Evl.Ex.refl _) (S.putL h3 h4 h0 (q.append q2)) .non⟩
    · rw [if_neg c] at h7; cases h7⟩
def popD : D → List D → Sto → Option (D × Sto) := fun d es st => match es with
  | [] => (owL d st).bind fun p => (p.2[p.2.length - 1]?).map fun e => (e, st.set p.1 (.lst p.2.dropLast))
  | _ => none
theorem mm_pop : MMeth X ca "list" "list.pop" popD := ⟨_, mt_pop, fun F r G H st x xs d ds z st' Q S rx rv hz k => by
  match ds, hz with
  | [], hz =>
    obtain rfl := rv.zero
    obtain ⟨⟨j, es⟩, h1, h2⟩ := Option.bind_eq_some_iff.mp (show (owL d st).bind _ = some (z, st') from hz)
    obtain ⟨e, h6, h7⟩ := Option.map_eq_some_iff.mp h2
    cases h7
    obtain ⟨a, ys, rfl, h3, h4, h0, h5, q⟩ := owL_at S rx h1
    obtain ⟨y, h8, ry⟩ := q.get h6
    exact ⟨a, ys, y, rfl, rfl, h5, by rw [q.length]; exact h8, k F _ _ (Evl.Ex.refl _) (S.putL h3 h4 h0 q.dropLast) ry⟩⟩
def popAtD : D → List D → Sto → Option (D × Sto) := fun d es st => match es with
  | [.int i] => (owL d st).bind fun p => if -(2 ^ 62) ≤ i ∧ i < 2 ^ 62 then (ixN p.2.length i).bind fun j => (p.2[j]?).map fun e => (e, st.set p.1 (.lst (p.2.eraseIdx j))) else none
  | _ => none
theorem mm_popAt : MMeth X ca "list" "list.pop" popAtD := ⟨_, mt_popAt, fun F r G H st x xs d ds z st' Q S rx rv hz k => by
  match ds, hz with
  | [.int i], hz =>
    obtain ⟨y, rfl, ry⟩ := rv.one
    cases ry
    obtain ⟨⟨j, es⟩, h1, h2⟩ := Option.bind_eq_some_iff.mp (show (owL d st).bind _ = some (z, st') from hz)
    obtain ⟨a, ys, rfl, h3, h4, h0, h5, q⟩ := owL_at S rx h1
    replace h2 : (if -(2 ^ 62) ≤ i ∧ i < 2 ^ 62 then (ixN es.length i).bind fun j2 => (es[j2]?).map fun e => (e, st.set j (.lst (es.eraseIdx j2))) else none) = some (z, st') := h2
    by_cases c : -(2 ^ 62) ≤ i ∧ i < 2 ^ 62
    · rw [if_pos c] at h2
      obtain ⟨j2, h6, h7⟩ := Option.bind_eq_some_iff.mp h2
      obtain ⟨e, h8, h9⟩ := Option.map_eq_some_iff.mp h7
      cases h9
      obtain ⟨y, h10, ry⟩ := q.get h8
      exact ⟨a, ys, i, j2, y, rfl, rfl, h5, by have := c.1; omega, by have := c.2; omega, by rw [q.length]; exact (ixN_seq h6).1, h10, k F _ _ (Evl.Ex.refl _) (S.putL h3 h4 h0 (q.eraseIdx _)) ry⟩
    · rw [if_neg c] at h2; cases h2⟩
def rvsD : D → List D → Sto → Option (D × Sto) := fun d es st => match es with
  | [] => (owL d st).map fun p => (.non, st.set p.1 (.lst p.2.reverse))
  | _ => none
theorem mm_reverse : MMeth X ca "list" "list.reverse" rvsD := ⟨_, mt_reverse, fun F r G H st x xs d ds z st' Q S rx rv hz k => by
  match ds, hz with
  | [], hz =>
    obtain rfl := rv.zero
    obtain ⟨⟨j, es⟩, h1, h2⟩ := Option.map_eq_some_iff.mp (show (owL d st).map _ = some (z, st') from hz)
    cases h2
    obtain ⟨a, ys, rfl, h3, h4, h0, h5, q⟩ := owL_at S rx h1
    exact ⟨a, ys, rfl, rfl, h5, k F _ _ (Evl.Ex.refl _) (S.putL h3 h4 h0 q.reverse) .non⟩⟩
/-- the place of the first one -/
def fdIx (p : D → Bool) : List D → Option Nat
  | [] => none
  | d :: ds => if p d = true then some 0 else (fdIx p ds).map (· + 1)
theorem fdIx_some {p : D → Bool} : ∀ {ds : List D} {j : Nat}, fdIx p ds = some j → ∃ z, ds[j]? = some z ∧ p z = true ∧ ∀ (m : Nat) (w : D), m < j → ds[m]? = some w → p w = false
  | [], j, h => by cases h
  | d :: ds, j, h => by
    unfold fdIx at h
    by_cases c : p d = true
    · rw [if_pos c] at h
      cases h
      exact ⟨d, rfl, c, fun m w hm _ => by omega⟩
    · rw [if_neg c] at h
      obtain ⟨i, h1, rfl⟩ := Option.map_eq_some_iff.mp h
      obtain ⟨z, h2, h3, h4⟩ := fdIx_some h1
      refine ⟨z, by simpa using h2, h3, fun m w hm hw => ?_⟩
      cases m with
      | zero =>
        have e : d = w := by simpa using hw
        subst e
        simpa using c
      | succ m => exact h4 m w (by omega) (by simpa using hw)
def indD : D → List D → Sto → Option (D × Sto) := fun d es st => match es with
  | [e] => (rdL st d).bind fun ds => if flD e = true ∧ ds.all flD = true then (fdIx (fun z => eqF z e) ds).map fun j => (.int (j : Nat), st) else none
  | _ => none
theorem mm_index : MMeth X ca "list" "list.index" indD := ⟨_, mt_index, fun F r G H st x xs d ds z st' Q S rx rv hz k => by
  match ds, hz with
  | [e], hz =>
    obtain ⟨y, rfl, ry⟩ := rv.one
    obtain ⟨es, h1, h2⟩ := Option.bind_eq_some_iff.mp (show (rdL st d).bind _ = some (z, st') from hz)
    obtain ⟨a, ys, rfl, h3, q⟩ := rdL_at S rx h1
    by_cases c : flD e = true ∧ es.all flD = true
    · rw [if_pos c] at h2
      obtain ⟨j, h4, h5⟩ := Option.map_eq_some_iff.mp h2
      cases h5
      obtain ⟨w, h6, h7, h8⟩ := fdIx_some h4
      obtain ⟨u, h9, ru⟩ := q.get h6
      refine ⟨a, ys, y, j, u, rfl, rfl, h3, by rw [ry.flat]; exact c.1, by rw [q.flat]; exact c.2, h9, by rw [ru.eqf ry]; exact h7, fun m u' hm hu => ?_, k F _ _ (Evl.Ex.refl _) S (.int _)⟩
      obtain ⟨w', h10, rw'⟩ := q.getV hu
      rw [rw'.eqf ry]
      exact h8 m w' hm h10
    · rw [if_neg c] at h2; cases h2⟩
/-- count of ints -/
def cntI : D → List D → Sto → Option (D × Sto) := fun d es st => match es with
  | [.int i] => (rdL st d).bind fun ds => (intsOf ds).map fun ns => (.int (ns.count i : Nat), st)
  | _ => none
theorem mm_countI : MMeth X ca "list" "list.count" cntI := ⟨_, mt_lcount, fun F r G H st x xs d ds z st' Q S rx rv hz k => by
  match ds, hz with
  | [.int i], hz =>
    obtain ⟨y, rfl, ry⟩ := rv.one
    cases ry
    obtain ⟨es, h1, h2⟩ := Option.bind_eq_some_iff.mp (show (rdL st d).bind _ = some (z, st') from hz)
    obtain ⟨ns, h3, h4⟩ := Option.map_eq_some_iff.mp h2
    cases h4
    obtain ⟨a, rfl, h5⟩ := ints_at S rx h1 h3
    exact ⟨a, ns, i, rfl, rfl, h5, k F _ _ (Evl.Ex.refl _) S (.int _)⟩⟩
/-- remove of an int -/
def fdN (i : Int) : List Int → Option Nat
  | [] => none
  | d :: ds => if d = i then some 0 else (fdN i ds).map (· + 1)
theorem fdN_some {i : Int} : ∀ {ns : List Int} {j : Nat}, fdN i ns = some j → ns[j]? = some i ∧ ∀ m : Nat, m < j → ns[m]? ≠ some i
  | [], j, h => by cases h
  | d :: ds, j, h => by
    unfold fdN at h
    by_cases c : d = i
    · rw [if_pos c] at h
      cases h
      exact ⟨by simp [c], fun m hm => by omega⟩
    · rw [if_neg c] at h
      obtain ⟨j', h1, rfl⟩ := Option.map_eq_some_iff.mp h
      obtain ⟨h2, h3⟩ := fdN_some h1
      refine ⟨by simpa using h2, fun m hm => ?_⟩
      cases m with
      | zero => simpa using c
      | succ m => simpa using h3 m (by omega)
def remI : D → List D → Sto → Option (D × Sto) := fun d es st => match es with
  | [.int i] => (owL d st).bind fun p => (intsOf p.2).bind fun ns => (fdN i ns).map fun j => (.non, st.set p.1 (.lst ((ns.eraseIdx j).map D.int)))
  | _ => none
theorem mm_removeI : MMeth X ca "list" "list.remove" remI := ⟨_, mt_remove, fun F r G H st x xs d ds z st' Q S rx rv hz k => by
  match ds, hz with
  | [.int i], hz =>
    obtain ⟨y, rfl, ry⟩ := rv.one
    cases ry
    obtain ⟨⟨j, es⟩, h1, h2⟩ := Option.bind_eq_some_iff.mp (show (owL d st).bind _ = some (z, st') from hz)
    obtain ⟨ns, h6, h7⟩ := Option.bind_eq_some_iff.mp h2
    obtain ⟨j2, h8, h9⟩ := Option.map_eq_some_iff.mp h7
    cases h9
    obtain ⟨a, ys, rfl, h3, h4, h0, h5, q⟩ := owL_at S rx h1
    replace h6 : intsOf es = some ns := h6
    rw [intsOf_some h6] at q
    rw [RVs.ints_inv q] at h5
    obtain ⟨h10, h11⟩ := fdN_some h8
    exact ⟨a, ns, i, j2, rfl, rfl, h5, h10, h11, k F _ _ (Evl.Ex.refl _) (S.putL h3 h4 h0 (RVs.ints _)) .non⟩⟩
end
/-! ### stores -/
/-- o[i] = e -/
def setIxS (f fo fi : EM) : SM := fun env st => (f env st).toS env fun d s => (fo env s).toS env fun o s => (fi env s).toS env fun i s => match i with
  | .int n => match owL o s with
    | some (k, ds) => match ixN ds.length n with
      | some j => .nx env (s.set k (.lst (ds.set j d)))
      | none => .bad
    | none => .bad
  | _ => .bad
/-- o[i] op= e -/
def augIxS (m : Op2) (fo fi f : EM) : SM := fun env st => (fo env st).toS env fun o s => (fi env s).toS env fun i s => match i with
  | .int n => match owL o s with
    | some (k, ds) => match atI ds n with
      | some x => (f env s).toS env fun d s2 => match m x d s2 with
        | some z => match owL o s2 with
          | some (k, ds) => match ixN ds.length n with
            | some j => .nx env (s2.set k (.lst (ds.set j z)))
            | none => .bad
          | none => .bad
        | none => .bad
      | none => .bad
    | none => .bad
  | _ => .bad
def augS (i : Nat) (m : Op2) (f : EM) : SM := fun env st => match env[i]? with
  | some (some x) => (f env st).toS env fun d s => match m x d s with
    | some z => .nx (env.set i (some z)) s
    | none => .bad
  | _ => .bad
section
variable {X : Cx} {ca : CA} {W : WX} {o e i : Expr} {f fo fi : EM} {pos tpos : Pos} {m : Op2}
theorem set_at {K : PySem.W.Frag} {F G H : Hp} {r : List Addr} {st : Sto} {x v : V} {d z : D} {n : Int} {k j : Nat} {ds : List D} {Q : Hp → Prop} (S : SR K ca F r G H st) (rx : RV K ca F r x d) (rv : RV K ca F r v z) (h1 : owL d st = some (k, ds)) (h2 : ixN ds.length n = some j)
    (q : ∀ H', SR K ca F r G H' (st.set k (.lst (ds.set j z))) → Q H') : rSetL x (.int n) v H Q := by
  obtain ⟨a, ys, rfl, h3, h4, h0, h5, q2⟩ := owL_at S rx h1
  exact ⟨a, ys, n, j, rfl, rfl, h5, by rw [q2.length]; exact h2, q _ (S.putL h3 h4 h0 (q2.set rv j))⟩
theorem ms_setIx (he : ME X ca W e f) (ho : ME X ca W o fo) (hi : ME X ca W i fi)
    (ha : ∀ v, assign (.Subscript o i tpos) X.env v = (do
      let ov ← holding [v] (eval o X.env)
      let iv ← holding [v, ov] (eval i X.env)
      standAt tpos
      holding [v, ov, iv] (setItem ov iv v)
      release [v, ov, iv] []) := by intro _; rfl)
    (hs : swapsWithSole [.Subscript o i tpos] e pos.line X.env = pure false := by rfl) (hw : swappedStores [.Subscript o i tpos] e X.env = pure none := by rfl) (h1 : (assignEach [.Subscript o i tpos] X.env).map (·.2) = [assign (.Subscript o i tpos) X.env] := by rfl) :
    MS X ca W (.Assign [.Subscript o i tpos] e pos) (setIxS f fo fi) := by
  obtain ⟨te, a1, a2⟩ := he
  obtain ⟨to, b1, b2⟩ := ho
  obtain ⟨ti, c1, c2⟩ := hi
  refine ⟨_, ps_asg a1 (pg_sub b1 c1 set_list ha) hs hw h1, fun F r G σ H env st D S E h => ?_⟩
  refine a2 F r G σ H env st _ S E (Post.imp (PostS.ofE E h) fun F1 r1 H1 s1 d e1 p1 S1 k1 v rv => ?_)
  refine b2 F1 r1 G σ H1 env s1 _ S1 (E.mono e1 p1) (Post.imp (PostS.ofE (E.mono e1 p1) k1) fun F2 r2 H2 s2 d2 e2 p2 S2 k2 v2 rv2 => ?_)
  have E2 := (E.mono e1 p1).mono e2 p2
  refine c2 F2 r2 G σ H2 env s2 _ S2 E2 (Post.imp (PostS.ofE E2 k2) fun F3 r3 H3 s3 d3 e3 p3 S3 k3 v3 rv3 => ?_)
  cases rv3 with
  | int n =>
    cases z : owL d2 s3 with
    | none => simp only [z] at k3; exact k3.elim
    | some kd =>
      obtain ⟨k, ds⟩ := kd
      cases z2 : ixN ds.length n with
      | none => simp only [z, z2] at k3; exact k3.elim
      | some j =>
        simp only [z, z2] at k3
        exact set_at S3 (rv2.mono e3 p3) (rv.mono (e2.trans e3) (p2.trans p3)) z z2 fun H' S' => k3 F3 r3 H' σ (Evl.Ex.refl _) (List.prefix_refl _) S' (E2.mono e3 p3)
  | _ => exact k3.elim
/-- o[i], by values -/
def rGetL : V → V → Hp → VK → Prop := fun x y H Q => ∃ p xs i v, x = .ref p ∧ y = .int i ∧ H p = some (.lst xs) ∧ atI xs i = some v ∧ Q v H
theorem get_list : PGet X rGetL := by
  intro pins s σ H x y v u Q I rx ry h
  obtain ⟨p, xs, i, z, rfl, rfl, hp, he, q⟩ := h
  cases rx
  obtain ⟨t, rfl⟩ := ry
  obtain ⟨its, r, pl, hz⟩ := I.list (SqL.of hp)
  obtain ⟨j, h1, h2, h3, h4, h5⟩ := atI_get he
  obtain ⟨w, ew, rw'⟩ := r.get h2
  have hl := r.length
  have hn := line63
  have fin : EP X pins σ Q w s := ⟨z, H, I, rw', q⟩
  by_cases h0 : 0 ≤ i
  · have hj : i.toNat = j := by
      rw [seqIndex_of h0 h5] at h1
      exact Option.some.inj h1
    exact wpAny_getItem_list pl.isList h0 (by omega) (by rw [hj]; simpa using ew) fin
  · have hj : (i + (its.toArray.size : Int)).toNat = j := by
      rw [seqIndex_neg (by omega) h4] at h1
      rw [List.size_toArray, ← hl]
      exact Option.some.inj h1
    exact wpAny_getItem_list_neg pl.isList (by omega) (by rw [List.size_toArray] <;> omega) (by omega) (by rw [hj]; simpa using ew) fin
theorem ms_augIx {op : Operator} (hm : MOp X ca (inplaceOp op) m) (ho : ME X ca W o fo) (hi : ME X ca W i fi) (he : ME X ca W e f)
    (ha : ∀ ov iv new, augStore i ov iv new = (do holding [new, ov, iv] (setItem ov iv new); release [new, ov, iv] []; pure .next) := by intros; rfl) : MS X ca W (.AugAssign (.Subscript o i tpos) op e pos) (augIxS m fo fi f) := by
  obtain ⟨qq, g1, g2⟩ := hm
  obtain ⟨to, b1, b2⟩ := ho
  obtain ⟨ti, c1, c2⟩ := hi
  obtain ⟨te, a1, a2⟩ := he
  refine ⟨_, ps_augS b1 c1 get_list a1 (show PIp X op qq from g1) set_list ha, fun F r G σ H env st D S E h => ?_⟩
  refine b2 F r G σ H env st _ S E (Post.imp (PostS.ofE E h) fun F1 r1 H1 s1 d e1 p1 S1 k1 v rv => ?_)
  refine c2 F1 r1 G σ H1 env s1 _ S1 (E.mono e1 p1) (Post.imp (PostS.ofE (E.mono e1 p1) k1) fun F2 r2 H2 s2 d2 e2 p2 S2 k2 v2 rv2 => ?_)
  have E2 := (E.mono e1 p1).mono e2 p2
  cases rv2 with
  | int n =>
    cases z : owL d s2 with
    | none => simp only [z] at k2; exact k2.elim
    | some kd =>
      obtain ⟨k, ds⟩ := kd
      cases z2 : atI ds n with
      | none => simp only [z, z2] at k2; exact k2.elim
      | some w =>
        simp only [z, z2] at k2
        obtain ⟨a, ys, rfl, h3, h4, h0, h5, q⟩ := owL_at S2 (rv.mono e2 p2) z
        obtain ⟨u, h6, ru⟩ := q.atI z2
        refine ⟨a, ys, n, u, rfl, rfl, h5, h6, ?_⟩
        refine a2 F2 r2 G σ H2 env s2 _ S2 E2 (Post.imp (PostS.ofE E2 k2) fun F3 r3 H3 s3 d3 e3 p3 S3 k3 v3 rv3 => ?_)
        have E3 := E2.mono e3 p3
        cases z3 : m w d3 s3 with
        | none => simp only [z3] at k3; exact k3.elim
        | some zz =>
          cases z4 : owL d s3 with
          | none => simp only [z3, z4] at k3; exact k3.elim
          | some kd =>
            obtain ⟨k', ds'⟩ := kd
            cases z5 : ixN ds'.length n with
            | none => simp only [z3, z4, z5] at k3; exact k3.elim
            | some j =>
              simp only [z3, z4, z5] at k3
              refine g2 F3 r3 G H3 s3 _ _ w d3 zz _ S3 (ru.mono e3 p3) rv3 z3 fun F4 H4 v4 e4 S4 rv4 => ?_
              exact set_at S4 ((rv.mono (e2.trans e3) (p2.trans p3)).mono e4 (List.prefix_refl _)) rv4 z4 z5 fun H' S' => k3 F4 r3 H' σ e4 (List.prefix_refl _) S' (E3.mono e4 (List.prefix_refl _))
  | _ => exact k2.elim
theorem ms_aug {j : Nat} {x : Str} {op : Operator} {pos' : Pos} (hN : X.N.Nodup) (hm : MOp X ca (inplaceOp op) m) (he : ME X ca W e f) (hi : X.N[j]? = some x := by rfl) (hx : Loc X.env.scope x := by first | exact Or.inl rfl | exact Or.inr rfl)
    (hf : X.fn x = true ∨ X.env.scope.names.lookup x = some .local := by first | exact .inl rfl | exact .inr rfl | assumption) (hd : (x == ("__debug__" : Str)) = false := by decide) : MS X ca W (.AugAssign (.Name x pos') op e pos) (augS j m f) := by
  obtain ⟨qq, g1, g2⟩ := hm
  obtain ⟨te, a1, a2⟩ := he
  refine ⟨_, ps_aug hN hi hx a1 (show PIp X op qq from g1) hf, fun F r G σ H env st D S E h => ?_⟩
  unfold augS at h
  split at h
  · rename_i xd hxd
    obtain ⟨v, h1, h2⟩ := E.2 j xd hxd
    refine ⟨v, h1, a2 F r G σ H env st _ S E (Post.imp (PostS.ofE E h) fun F1 r1 H1 s1 d e1 p1 S1 k1 v1 rv1 => ?_)⟩
    cases z : m xd d s1 with
    | none => simp only [z] at k1; exact k1.elim
    | some zz =>
      simp only [z] at k1
      exact g2 F1 r1 G H1 s1 v v1 xd d zz _ S1 (h2.mono e1 p1) rv1 z fun F' H' v' e' S' rv' => k1 F' r1 H' _ e' (List.prefix_refl _) S' (((E.mono e1 p1).mono e' (List.prefix_refl _)).set rv' j)
  · exact h.elim
theorem mip_add : MOp X ca (inplaceOp .Add) addI := mop_ii0 iop_add fun _ _ _ _ => .int _
theorem mip_sub : MOp X ca (inplaceOp .Sub) subI := mop_ii0 iop_sub fun _ _ _ _ => .int _
theorem iop_mulA : OpR X (inplaceOp .Mult) (rI (fun i j => CMul i j ∨ CMulW i j) fun i j => .int (i * j)) := opI fun _ _ _ _ _ _ _ hc q => imul_int q (hc.elim CMul.ok CMulW.ok)
theorem mip_mul : MOp X ca (inplaceOp .Mult) mulI := mop_ii iop_mulA (fun i j h => by
  rcases h with h | h | h
  · exact .inl (.inl h)
  · exact .inl (.inr h)
  · exact .inr (wide_mul h.1 h.2 (by decide) (by decide) (by decide))) fun _ _ _ _ => .int _
end
end MX
set_option maxHeartbeats 1000000
/-! MX, part 6: isinstance, attributes, functions, calls, objects. -/
namespace MX
open PySem L2 PyProof.Rows
/-! ### types -/
inductive TY where
  | non | bl | int | str | lst | tup | dic | cls (c : Nat)
  deriving DecidableEq
def TY.val (ca : CA) : TY → Value
  | .non => .type "NoneType"
  | .bl => .type "bool"
  | .int => .type "int"
  | .str => .type "str"
  | .lst => .type "list"
  | .tup => .type "tuple"
  | .dic => .type "dict"
  | .cls c => .ref (ca c)
def tyD (st : Sto) : D → Option TY
  | .non => some .non
  | .bl _ => some .bl
  | .int _ => some .int
  | .str _ => some .str
  | .lst _ => some .lst
  | .tup _ => some .tup
  | .obj c _ => some (.cls c)
  | .scr _ => none
  | .adr _ => none
  | .own k => match st[k]? with
    | some (.lst _) => some .lst
    | some (.fz _) => some .lst
    | some (.obj c _) => some (.cls c)
    | some (.dic _) => some .dic
    | none => none
/-- t is c, or under it -/
def isT (t c : TY) : Bool := match t, c with
  | .bl, .int => true
  | t, c => decide (t = c)
/-- what the classes cs of the text must have -/
structure ClsF (K : PySem.W.Frag) (C : Addr) : Prop where
  cl : Cls K C
  ha : PySem.W.findIn K (.ref C) "__class__" = some (some (.builtin "object.__class__"))
  hm : PySem.W.mroIn K C (.type "object") = some true
structure Kit (K : PySem.W.Frag) (ca : CA) (cs : List Nat) : Prop where
  cf : ∀ c ∈ cs, ClsF K (ca c)
  hn : PySem.W.specialIn K (.builtin "object.__class__") "__get__" = some (some (.builtin "getset_descriptor.__get__"))
  ht : PySem.W.takesIn K (.builtin "object.__class__") = some true
  oo : ∀ c ∈ cs, ∀ c' ∈ cs, PySem.W.kitOne K (.ref (ca c)) (.ref (ca c')) = some (decide (c = c'))
  ob : ∀ c ∈ cs, ∀ T ∈ ["NoneType", "bool", "int", "str", "list", "tuple", "dict"], PySem.W.kitOne K (.ref (ca c)) (.type T) = some false
  bo : ∀ c ∈ cs, ∀ T ∈ ["NoneType", "bool", "int", "str", "list", "tuple", "dict"], PySem.W.kitOne K (.type T) (.ref (ca c)) = some false
def TY.isIn (cs : List Nat) : TY → Bool
  | .cls c => decide (c ∈ cs)
  | _ => true
def isiD (cs : List Nat) (c : TY) (d : D) (st : Sto) : Option D := (tyD st d).bind fun t => if t.isIn cs = true then some (.bl (isT t c)) else none
def isiM (cs : List Nat) (c : TY) (f : EM) : EM := fun env st => (f env st).bind fun d s => Res.of (isiD cs c d s) s
section
variable {K : PySem.W.Frag} {ca : CA} {F G H : Hp} {r : List Addr} {st : Sto} {cs : List Nat}
theorem Kit.one (k : Kit K ca cs) {t c : TY} (ht : t.isIn cs = true) (hc : c.isIn cs = true) : PySem.W.kitOne K (t.val ca) (c.val ca) = some (isT t c) := by
  cases c with
  | cls c =>
    have hc := of_decide_eq_true hc
    cases t with
    | cls t =>
      have e := k.oo t (of_decide_eq_true ht) c hc
      have e2 : isT (.cls t) (.cls c) = decide (t = c) := by
        show decide (TY.cls t = TY.cls c) = _
        by_cases e : t = c
        · rw [decide_eq_true e, decide_eq_true (by rw [e])]
        · rw [decide_eq_false e, decide_eq_false (fun q => e (TY.cls.inj q))]
      rw [e2]
      exact e
    | non => exact k.bo c hc _ (by decide)
    | bl => exact k.bo c hc _ (by decide)
    | int => exact k.bo c hc _ (by decide)
    | str => exact k.bo c hc _ (by decide)
    | lst => exact k.bo c hc _ (by decide)
    | tup => exact k.bo c hc _ (by decide)
    | dic => exact k.bo c hc _ (by decide)
  | non => cases t with
    | cls t => exact k.ob t (of_decide_eq_true ht) _ (by decide)
    | _ => exact kit_ty (by decide +kernel)
  | bl => cases t with
    | cls t => exact k.ob t (of_decide_eq_true ht) _ (by decide)
    | _ => exact kit_ty (by decide +kernel)
  | int => cases t with
    | cls t => exact k.ob t (of_decide_eq_true ht) _ (by decide)
    | _ => exact kit_ty (by decide +kernel)
  | str => cases t with
    | cls t => exact k.ob t (of_decide_eq_true ht) _ (by decide)
    | _ => exact kit_ty (by decide +kernel)
  | lst => cases t with
    | cls t => exact k.ob t (of_decide_eq_true ht) _ (by decide)
    | _ => exact kit_ty (by decide +kernel)
  | tup => cases t with
    | cls t => exact k.ob t (of_decide_eq_true ht) _ (by decide)
    | _ => exact kit_ty (by decide +kernel)
  | dic => cases t with
    | cls t => exact k.ob t (of_decide_eq_true ht) _ (by decide)
    | _ => exact kit_ty (by decide +kernel)
theorem ty_sq {a : Addr} {xs : List V} (h : SqT K H a xs) : TyX K H (.ref a) (.type "tuple") := by
  rcases h with (h | ⟨o, h⟩) | ⟨o, its, n, h1, h2, _⟩
  · exact .base (.tup h)
  · exact .fTuple h
  · exact .kTuple h1 h2
theorem ty_at (k : Kit K ca cs) (S : SR K ca F r G H st) {v : V} {d : D} {t : TY} (rv : RV K ca F r v d) (h : tyD st d = some t) (hi : t.isIn cs = true) : TyX K H v (t.val ca) := by
  cases rv with
  | non => cases h; exact .base .non
  | bl b => cases h; exact .base (.bl b)
  | int b => cases h; exact .base (.int b)
  | str b => cases h; exact .base (.str b)
  | lst h1 q => cases h; exact .base (.lst (S.exF _ _ h1))
  | tup h1 q => cases h; exact ty_sq (Evl.ex_t S.exF h1)
  | obj h1 hl q =>
    cases h
    have c := k.cf _ (of_decide_eq_true hi)
    exact .base (.ins (S.exF _ _ h1) c.cl c.ha k.hn k.ht c.hm)
  | scr _ => cases h
  | adr _ => cases h
  | own hk =>
    rename_i a j
    replace h : (match st[j]? with
      | some (.lst _) => some TY.lst
      | some (.fz _) => some .lst
      | some (.obj c _) => some (.cls c)
      | some (.dic _) => some .dic
      | none => none) = some t := h
    split at h
    · rename_i e
      cases h
      obtain ⟨_, xs, h1, _⟩ := S.ob j _ a e hk
      exact .base (.lst h1)
    · rename_i e
      cases h
      obtain ⟨xs, h1, _⟩ := S.ob j _ a e hk
      exact .base (.lst (S.exF _ _ h1))
    · rename_i c ds e
      cases h
      obtain ⟨_, dx, xs, h1, _, _⟩ := S.ob j _ a e hk
      have c := k.cf _ (of_decide_eq_true hi)
      exact .base (.ins h1 c.cl c.ha k.hn k.ht c.hm)
    · rename_i e
      cases h
      obtain ⟨_, kv, h1, _, _⟩ := S.ob j _ a e hk
      exact .base (.dK h1)
    · cases h
end
section
variable {X : Cx} {ca : CA} {W : WX} {o e : Expr} {es : List Expr} {f fo fi : EM} {am : AM} {p p1 p2 pos tpos : Pos} {cs : List Nat} {i : Nat}
theorem sim_isi {ta : TE} {c : TY} {cv : V} (k : Kit X.K ca cs) (hc : c.isIn cs = true) (hv : ClsV cv (c.val ca)) (a2 : SimE X.K ca W ta f) : SimE X.K ca W (tCB (rIsi X.K) (tCons ta (tCons (tC cv) tNil))) (isiM cs c f) := fun F r G σ H env st Q S E h => by
  refine a2 F r G σ H env st _ S E (Post.imp (Post.bind h) fun F1 r1 H1 s1 d e1 p1 S1 k1 v rv => ?_)
  cases z : tyD s1 d with
  | none =>
    have : isiD cs c d s1 = none := by unfold isiD; rw [z]; rfl
    rw [this] at k1; exact k1.elim
  | some t =>
    by_cases ht : t.isIn cs = true
    · have : isiD cs c d s1 = some (.bl (isT t c)) := by unfold isiD; rw [z]; show (if _ then _ else _) = _; rw [if_pos ht]
      rw [this] at k1
      exact ⟨v, cv, t.val ca, c.val ca, isT t c, rfl, hv, ty_at k S1 rv z ht, k.one ht hc, k1 F1 r1 H1 (Evl.Ex.refl _) (List.prefix_refl _) S1 _ (.bl _)⟩
    · have : isiD cs c d s1 = none := by unfold isiD; rw [z]; show (if _ then _ else _) = _; rw [if_neg ht]
      rw [this] at k1; exact k1.elim
/-- isinstance(e, T), T a built-in type -/
theorem me_isiB {T : String} {x : Str} {c : TY} (k : Kit X.K ca cs) (hm : X.mg "isinstance" = none) (hx : X.mg x = none) (he : ME X ca W e f) (hc : c.val ca = .type T) (hci : c.isIn cs = true) (hv : bootBuiltins x = some (.type T) := by decide +kernel)
    (hg : Gl X "isinstance" := by rfl) (hgx : Gl X x := by rfl) (hn : x ≠ "__name__" := by decide) (hdb : (x == ("__debug__" : Str)) = false := by decide)
    (h1 : starEach [e, .Name x p1] X.env = (false, eval e X.env) :: starEach [.Name x p1] X.env := by rfl) (h2 : starEach [.Name x p1] X.env = (false, eval (.Name x p1) X.env) :: starEach [] X.env := by rfl)
    (hpl : (backTo pos (starEach [.Name x p1] X.env)).any (·.1) = false := by rfl) : ME X ca W (.Call (.Name "isinstance" p) [e, .Name x p1] [] pos) (isiM cs c f) := by
  obtain ⟨ta, a1, a2⟩ := he
  exact ⟨_, pe_callB call_isi hg hm (by decide +kernel) (pa_cons a1 (pa_cons (pe_bltn (v := .ty T) hgx hx hv rfl hn hdb) pa_nil h2) h1) (by decide) (by decide) h1 hpl, sim_isi k hci (hc ▸ .ty T) a2⟩
/-- isinstance(e, C), C a class of the text -/
theorem me_isiC {x : Str} {c : Nat} (k : Kit X.K ca cs) (hm : X.mg "isinstance" = none) (hx : X.mg x = some (.ref (ca c))) (he : ME X ca W e f) (hci : c ∈ cs)
    (hg : Gl X "isinstance" := by rfl) (hgx : Gl X x := by rfl) (hdb : (x == ("__debug__" : Str)) = false := by decide)
    (h1 : starEach [e, .Name x p1] X.env = (false, eval e X.env) :: starEach [.Name x p1] X.env := by rfl) (h2 : starEach [.Name x p1] X.env = (false, eval (.Name x p1) X.env) :: starEach [] X.env := by rfl)
    (hpl : (backTo pos (starEach [.Name x p1] X.env)).any (·.1) = false := by rfl) : ME X ca W (.Call (.Name "isinstance" p) [e, .Name x p1] [] pos) (isiM cs (.cls c) f) := by
  obtain ⟨ta, a1, a2⟩ := he
  exact ⟨_, pe_callB call_isi hg hm (by decide +kernel) (pa_cons a1 (pa_cons (pe_glob (v := .ref (ca c)) hgx hx rfl hdb) pa_nil h2) h1) (by decide) (by decide) h1 hpl, sim_isi k (decide_eq_true hci) (.own _) a2⟩
end
/-! ### attributes -/
def objD (d : D) (st : Sto) : Option (Nat × List D) := match d with
  | .obj c ds => some (c, ds)
  | .own k => match st[k]? with
    | some (.obj c ds) => some (c, ds)
    | _ => none
  | _ => none
def fldM (c i : Nat) (f : EM) : EM := fun env st => (f env st).bind fun d s => match objD d s with
  | some (c', ds) => if c' = c then Res.of ds[i]? s else .bad
  | none => .bad
theorem zip_lookup {l : List Str} (hn : l.Nodup) : ∀ {xs : List V} {i : Nat} {x : Str} {v : V}, l[i]? = some x → xs[i]? = some v → (l.zip xs).lookup x = some v := by
  induction l with
  | nil => intro xs i x v h; simp at h
  | cons a l ih =>
    intro xs i x v h1 h2
    rw [List.nodup_cons] at hn
    cases xs with
    | nil => simp at h2
    | cons b xs =>
      rw [List.zip_cons_cons, List.lookup_cons]
      cases i with
      | zero =>
        simp at h1 h2
        subst h1 h2
        simp
      | succ i =>
        have h3 : l[i]? = some x := by simpa using h1
        have : ¬ x = a := fun e => hn.1 (e ▸ List.mem_of_getElem? h3)
        rw [show (x == a) = false from beq_eq_false_iff_ne.mpr this]
        exact ih hn.2 h3 (by simpa using h2)
theorem zip_none {l : List Str} {x : Str} (hx : x ∉ l) : ∀ xs : List V, (l.zip xs).lookup x = none := by
  induction l with
  | nil => intro xs; rfl
  | cons a l ih =>
    intro xs
    rw [List.mem_cons, not_or] at hx
    cases xs with
    | nil => rfl
    | cons b xs =>
      rw [List.zip_cons_cons, List.lookup_cons, show (x == a) = false from beq_eq_false_iff_ne.mpr hx.1]
      exact ih hx.2 xs
/-- a store of the i-th attribute -/
def putAt {α : Type} (xs : List α) (i : Nat) (v : α) : List α := if i < xs.length then xs.set i v else xs ++ [v]
theorem putF_zip {l : List Str} (hn : l.Nodup) : ∀ {xs : List V} {i : Nat} {x : Str} (v : V), l[i]? = some x → i ≤ xs.length → putF x v (l.zip xs) = l.zip (putAt xs i v) := by
  induction l with
  | nil => intro xs i x v h; simp at h
  | cons a l ih =>
    intro xs i x v h1 h2
    rw [List.nodup_cons] at hn
    cases xs with
    | nil =>
      have e : i = 0 := by simpa using h2
      subst e
      simp at h1
      subst h1
      have e2 : putAt ([] : List V) 0 v = [v] := by unfold putAt; simp
      rw [e2, List.zip_nil_right, List.zip_cons_cons, List.zip_nil_right]
      rfl
    | cons b xs =>
      cases i with
      | zero =>
        simp at h1
        subst h1
        show (if a = a then (a, v) :: l.zip xs else (a, b) :: putF a v (l.zip xs)) = _
        rw [if_pos rfl]
        unfold putAt
        rw [if_pos (by simp)]
        rfl
      | succ i =>
        have h3 : l[i]? = some x := by simpa using h1
        have : ¬ a = x := fun e => hn.1 (e ▸ List.mem_of_getElem? h3)
        show (if a = x then (a, v) :: l.zip xs else (a, b) :: putF x v (l.zip xs)) = _
        rw [if_neg this, ih hn.2 v h3 (by simpa using h2)]
        unfold putAt
        by_cases c : i < xs.length
        · rw [if_pos c, if_pos (by simpa using c)]
          rfl
        · rw [if_neg c, if_neg (by simpa using c)]
          rfl
theorem putAt_len {α : Type} (xs : List α) (i : Nat) (v : α) (h : i ≤ xs.length) : (putAt xs i v).length ≤ max xs.length (i + 1) := by
  unfold putAt
  split
  · rw [List.length_set]; exact Nat.le_max_left _ _
  · rw [List.length_append]
    have : [v].length = 1 := rfl
    omega
section
variable {K : PySem.W.Frag} {ca : CA} {F G H : Hp} {r : List Addr} {st : Sto}
theorem objD_at (S : SR K ca F r G H st) {v : V} {d : D} {c : Nat} {ds : List D} (rv : RV K ca F r v d) (h : objD d st = some (c, ds)) : ∃ a dx xs, v = .ref a ∧ H a = some (.ins (ca c) dx ((lay c).zip xs)) ∧ xs.length ≤ (lay c).length ∧ RVs K ca F r xs ds := by
  cases rv with
  | obj h1 hl q => cases h; exact ⟨_, _, _, rfl, S.exF _ _ h1, Nat.le_of_eq hl, q⟩
  | own hk =>
    rename_i a j
    replace h : (match st[j]? with
      | some (.obj c ds) => some (c, ds)
      | _ => none) = some (c, ds) := h
    split at h
    · rename_i e
      cases h
      obtain ⟨_, dx, xs, h1, h2, h3⟩ := S.ob j _ a e hk
      exact ⟨a, dx, xs, rfl, h1, h2, h3⟩
    · cases h
  | _ => cases h
theorem RVs.putAt {xs : List V} {ds : List D} (q : RVs K ca F r xs ds) {v : V} {d : D} (h : RV K ca F r v d) (i : Nat) : RVs K ca F r (MX.putAt xs i v) (MX.putAt ds i d) := by
  unfold MX.putAt
  rw [q.length]
  split
  · exact q.set h i
  · exact q.append (.cons h .nil)
end
def setFldS (c i : Nat) (fo f : EM) : SM := fun env st => (f env st).toS env fun d s => (fo env s).toS env fun o s => match o with
  | .own k => match s[k]? with
    | some (.obj c' ds) => if c' = c ∧ i ≤ ds.length then .nx env (s.set k (.obj c (putAt ds i d))) else .bad
    | _ => .bad
  | _ => .bad
section
variable {X : Cx} {ca : CA} {W : WX} {o e : Expr} {es : List Expr} {f fo fi : EM} {am : AM} {p p1 p2 pos pos' tpos : Pos} {c i : Nat} {x : Str}
theorem me_fld (hc : Cls X.K (ca c)) (hn : NoAttr X.K (ca c) x) (hl : (lay c)[i]? = some x) (he : ME X ca W e f) (hb : attributeBase e x X.env (eval e X.env) = eval e X.env := by rfl) : ME X ca W (.Attribute e x pos) (fldM c i f) := by
  obtain ⟨ta, a1, a2⟩ := he
  refine ⟨_, pe_fld a1 hb, fun F r G σ H env st Q S E h => ?_⟩
  refine a2 F r G σ H env st _ S E (Post.imp (Post.bind h) fun F1 r1 H1 s1 d e1 p1 S1 k1 v rv => ?_)
  cases z : objD d s1 with
  | none => simp only [z] at k1; exact k1.elim
  | some cd =>
    obtain ⟨c', ds⟩ := cd
    simp only [z] at k1
    by_cases ec : c' = c
    · rw [if_pos ec] at k1
      subst ec
      cases z2 : ds[i]? with
      | none => rw [z2] at k1; exact k1.elim
      | some y =>
        rw [z2] at k1
        obtain ⟨a, dx, xs, rfl, h1, h2, q⟩ := objD_at S1 rv z
        obtain ⟨w, h3, rw'⟩ := q.get z2
        exact ⟨a, ca c', dx, _, w, rfl, h1, hc, hn, zip_lookup (lay_nd _) hl h3, k1 F1 r1 H1 (Evl.Ex.refl _) (List.prefix_refl _) S1 w rw'⟩
    · rw [if_neg ec] at k1; exact k1.elim
theorem ms_setFld (hc : Cls X.K (ca c)) (hn : NoAttr X.K (ca c) x) (hl : (lay c)[i]? = some x) (ho : ME X ca W o fo) (he : ME X ca W e f) (hs : swapsWith e (some (.Attribute o x pos')) pos.line X.env = pure false := by rfl) : MS X ca W (.Assign [.Attribute o x pos'] e pos) (setFldS c i fo f) := by
  obtain ⟨to, b1, b2⟩ := ho
  obtain ⟨te, a1, a2⟩ := he
  refine ⟨_, ps_fld b1 a1 hs, fun F r G σ H env st D S E h => ?_⟩
  refine a2 F r G σ H env st _ S E (Post.imp (PostS.ofE E h) fun F1 r1 H1 s1 d e1 p1 S1 k1 v rv => ?_)
  have E1 := E.mono e1 p1
  refine b2 F1 r1 G σ H1 env s1 _ S1 E1 (Post.imp (PostS.ofE E1 k1) fun F2 r2 H2 s2 d2 e2 p2 S2 k2 v2 rv2 => ?_)
  cases d2 with
  | own k =>
    obtain ⟨a, rfl, ha⟩ := rv2.own_inv
    cases z : s2[k]? with
    | none => simp only [z] at k2; exact k2.elim
    | some m =>
      cases m with
      | obj c' ds =>
        simp only [z] at k2
        by_cases ec : c' = c ∧ i ≤ ds.length
        · rw [if_pos ec] at k2
          obtain ⟨rfl, hi⟩ := ec
          obtain ⟨h0, dx, xs, h1, h2, q⟩ := S2.ob k _ a z ha
          have hi2 : i < (lay c').length := (List.getElem?_eq_some_iff.mp hl).1
          have h4 := lay_len c'
          refine ⟨a, ca c', dx, _, rfl, h1, hc, hn, ?_, ?_⟩
          · rw [List.length_zip]; omega
          · rw [putF_zip (lay_nd _) v hl (by rw [q.length]; exact hi)]
            exact k2 F2 r2 _ σ (Evl.Ex.refl _) (List.prefix_refl _) (S2.put z rfl ha ⟨h0, dx, _, rfl, by
              have := putAt_len xs i v (by rw [q.length]; exact hi)
              omega, q.putAt (rv.mono e2 p2) i⟩) (E1.mono e2 p2)
        · rw [if_neg ec] at k2; exact k2.elim
      | _ => simp only [z] at k2; exact k2.elim
  | _ => exact k2.elim
end
/-! ### functions -/
/-- a promise: the arguments and the store are those of a run of m -/
def spM (K : PySem.W.Frag) (ca : CA) (n : Nat) (m : FM) : Sp := fun vs H Q E => ∃ F r G ds st, SR K ca F r G H st ∧ RVs K ca F r vs ds ∧ vs.length = n ∧ Post K ca (fun cls dx _ H' => E cls dx H') [] F r G (m ds st) (WV K ca Q)
def envOf (n : Nat) (ds : List D) : Env := ds.map some ++ List.replicate (n - ds.length) none
/-- no exception leaves -/
def NoE (m : FM) : Prop := ∀ ds st e s, m ds st ≠ .er e s
/-- a body's end as the call's -/
def SRes.ret (x : SRes) : Res D := match x with
  | .nx _ s => .ok .non s
  | .rt d s => .ok d s
  | .er e _ s => .er e s
  | _ => .bad
@[simp] theorem SRes.ret_nx (e : Env) (s : Sto) : (SRes.nx e s).ret = .ok .non s := rfl
@[simp] theorem SRes.ret_rt (d : D) (s : Sto) : (SRes.rt d s).ret = .ok d s := rfl
@[simp] theorem SRes.ret_er (x : Exc) (e : Env) (s : Sto) : (SRes.er x e s).ret = .er x s := rfl
@[simp] theorem SRes.ret_bk (e : Env) (s : Sto) : (SRes.bk e s).ret = .bad := rfl
@[simp] theorem SRes.ret_ct (e : Env) (s : Sto) : (SRes.ct e s).ret = .bad := rfl
@[simp] theorem SRes.ret_bad : SRes.bad.ret = .bad := rfl
def SRes.ret0 (x : SRes) : Res D := match x with
  | .nx _ s => .ok .non s
  | .rt d s => .ok d s
  | _ => .bad
@[simp] theorem SRes.ret0_nx (e : Env) (s : Sto) : (SRes.nx e s).ret0 = .ok .non s := rfl
@[simp] theorem SRes.ret0_rt (d : D) (s : Sto) : (SRes.rt d s).ret0 = .ok d s := rfl
@[simp] theorem SRes.ret0_er (x : Exc) (e : Env) (s : Sto) : (SRes.er x e s).ret0 = .bad := rfl
@[simp] theorem SRes.ret0_bk (e : Env) (s : Sto) : (SRes.bk e s).ret0 = .bad := rfl
@[simp] theorem SRes.ret0_ct (e : Env) (s : Sto) : (SRes.ct e s).ret0 = .bad := rfl
@[simp] theorem SRes.ret0_bad : SRes.bad.ret0 = .bad := rfl
/-- a def that lets no exception out, of n names -/
def fn0 (n : Nat) (body : SM) : FM := fun ds st => (body (envOf n ds) st).ret0
def Exc.clo (e : Exc) (n : Nat) : Bool := match e.at_ with
  | none => true
  | some d => d.clo n
open Classical in
/-- the store is cut back at the end -/
noncomputable def cutR (st : Sto) (x : Res D) : Res D := match x with
  | .ok d st' => if d.clo st.length = true ∧ tame st st' then .ok d (st'.take st.length) else .bad
  | .er e st' => if e.clo st.length = true ∧ tame st st' then .er e (st'.take st.length) else .bad
  | .bad => .bad
noncomputable def fnC (n : Nat) (body : SM) : FM := fun ds st => cutR st (fn0 n body ds st)
theorem noE_fn0 (n : Nat) (body : SM) : NoE (fn0 n body) := fun ds st e s h => by
  unfold fn0 SRes.ret0 at h
  split at h <;> cases h
theorem noE_cut {m : FM} (h : NoE m) : NoE (fun ds st => cutR st (m ds st)) := fun ds st e s q => by
  replace q : cutR st (m ds st) = .er e s := q
  unfold cutR at q
  split at q
  · split at q <;> cases q
  · rename_i z
    exact h _ _ _ _ z
  · cases q
theorem noE_fnC (n : Nat) (body : SM) : NoE (fnC n body) := noE_cut (noE_fn0 n body)
section
variable {K : PySem.W.Frag} {ca : CA} {P : Program} {w : World} {mg : Str → Option Value} {base : Heap}
theorem re_start {F : Hp} {r : List Addr} {N : List Str} {vs : List V} {ds : List D} (q : RVs K ca F r vs ds) : RE K ca F r (L2.start N vs) (envOf N.length ds) := by
  unfold L2.start envOf
  refine ⟨by rw [List.length_append, List.length_append, List.length_map, List.length_map, List.length_replicate, List.length_replicate, q.length], fun i d h => ?_⟩
  by_cases hi : i < ds.length
  · rw [List.getElem?_append_left (by rw [List.length_map]; exact hi), List.getElem?_map] at h
    cases z : ds[i]? with
    | none => rw [z] at h; cases h
    | some d' =>
      rw [z] at h
      have e : d' = d := by simpa using h
      subst e
      obtain ⟨v, h1, h2⟩ := q.get z
      exact ⟨v, by rw [List.getElem?_append_left (by rw [List.length_map, q.length]; exact hi), List.getElem?_map, h1]; rfl, h2⟩
  · rw [List.getElem?_append_right (by rw [List.length_map]; omega), List.getElem?_replicate] at h
    split at h <;> simp at h
theorem fn_ok0 {x qual : Str} {st : Stmt} {f : Addr} {fd : FuncData} {N ps : List Str} {k : Nat} {body : SM} (F : Fun K x qual st f fd) (S : FnScope N ps (defScope st))
    (hb : ∀ (cdv : Value) (A : Around) (outer : List PySem.Env) (s : Shared) (H : Hp) (E : XK), Room k (A.deeper (envOfC qual (defScope st) s.heap.objs.size f cdv)) → MSs (cxOf CX0 P w K mg base N qual (defScope st) f cdv A outer s H E).nox ca (fun _ _ _ _ => False) (defBody st) body) :
    FnOk P w K mg base CX0 (k + 1) f fd ps (spM K ca ps.length (fn0 N.length body)) := by
  refine F.ok S (fun vs H Q E h => ?_) (fun cdv A outer s H vs Q E hr h => ?_)
  · obtain ⟨F, r, G, ds, st, _, _, e, _⟩ := h
    exact e
  · obtain ⟨F, r, G, ds, st, hS, hv, e, hp⟩ := h
    obtain ⟨t, t1, t2⟩ := hb cdv A outer s H E hr
    refine ⟨t, t1, t2 F r G _ H (envOf N.length ds) st _ hS (re_start hv) ?_⟩
    unfold fn0 at hp
    cases z : body (envOf N.length ds) st with
    | nx env s' => rw [z] at hp; exact fun F' r' H' σ' e' p' S' _ => hp F' r' H' e' p' S' .non .non
    | rt d s' => rw [z] at hp; exact fun F' r' H' v e' p' S' rv => hp F' r' H' e' p' S' v rv
    | bk _ _ => rw [z] at hp; exact hp.elim
    | ct _ _ => rw [z] at hp; exact hp.elim
    | er _ _ _ => rw [z] at hp; exact hp.elim
    | bad => rw [z] at hp; exact hp.elim
theorem RX.back {F : Hp} {r r' : List Addr} {H : Hp} {cls : Value} {dx : Option Addr} {e : Exc} (p : r <+: r') (h : RX K ca F r' H cls dx e) (c : e.clo r.length = true) : RX K ca F r H cls dx e := by
  obtain ⟨h1, h2⟩ := h
  refine ⟨h1, ?_⟩
  unfold Exc.clo at c
  cases z : e.at_ with
  | none => rw [z] at h2; exact h2
  | some d =>
    rw [z] at h2 c
    obtain ⟨q, v, h3, h4, h5⟩ := h2
    exact ⟨q, v, h3, h4, h5.back p c⟩
theorem sp_cut {n : Nat} {m : FM} {vs : List V} {H : Hp} {Q : VK} {E : XK} (h : spM K ca n (fun ds st => cutR st (m ds st)) vs H Q E) : spM K ca n m vs H Q E := by
  obtain ⟨F, r, G, ds, st, S, hv, e, hp⟩ := h
  refine ⟨F, r, G, ds, st, S, hv, e, ?_⟩
  cases z : m ds st with
  | ok d st' =>
    simp only [z] at hp
    unfold cutR at hp
    simp only at hp
    split at hp
    · rename_i c
      exact fun F' r' H' e' p' S' v rv => hp F' r H' e' (List.prefix_refl _) (S.cut S' p' c.2) v (rv.back p' (by rw [S.len]; exact c.1))
    · exact hp.elim
  | er x st' =>
    simp only [z] at hp
    unfold cutR at hp
    simp only at hp
    split at hp
    · rename_i c
      exact fun F' r' H' cls dx e' p' S' rx => hp F' r H' cls dx e' (List.prefix_refl _) (S.cut S' p' c.2) (rx.back p' (by rw [S.len]; exact c.1))
    · exact hp.elim
  | bad => simp only [z] at hp; exact hp.elim
end
end MX
set_option maxHeartbeats 1000000
/-! MX, part 7: calls of defs, methods, properties, classes; loops; comprehensions. -/
namespace MX
open PySem L2 PyProof.Rows
abbrev Fk0 (X : Cx) (ca : CA) (k : Nat) (f : Addr) (fd : FuncData) (ps : List Str) (m : FM) : Prop := FnOk X.prog X.w X.K X.mg X.base CX0 k f fd ps (spM X.K ca ps.length m)
def callM (m : FM) (a : AM) : EM := fun env st => (a env st).bind fun ds s => m ds s
section
variable {X : Cx} {ca : CA} {W : WX} {o e : Expr} {es : List Expr} {f fo : EM} {am : AM} {p pos apos : Pos} {k : Nat} {fa : Addr} {fd : FuncData} {ps : List Str} {m : FM} {x : Str} {c : Nat}
theorem sp_of {F : Hp} {r : List Addr} {G H : Hp} {σ : L2.St} {st : Sto} {vs : List V} {ds : List D} {Q : VK} (ne : NoE m) (S : SR X.K ca F r G H st) (rv : RVs X.K ca F r vs ds) (hl : vs.length = ps.length) (h : Post X.K ca W σ F r G (m ds st) (WV X.K ca Q)) : spM X.K ca ps.length m vs H Q E0 := by
  refine ⟨F, r, G, ds, st, S, rv, hl, ?_⟩
  cases z : m ds st with
  | ok d st' => rw [z] at h; exact h
  | er e st' => exact absurd z (ne _ _ _ _)
  | bad => rw [z] at h; exact h
/-- the arguments given, dn of them defaults -/
def argM (n : Nat) (dd : List D) (a : AM) : AM := fun env st => (a env st).bind fun ds s => if (ds ++ dd).length = n then .ok (ds ++ dd) s else .bad
theorem sim_args {K : PySem.W.Frag} {ta : TA} {n : Nat} (a2 : SimA K ca W ta am) {F : Hp} {r : List Addr} {G : Hp} {σ : L2.St} {H : Hp} {env : Env} {st : Sto} (S : SR K ca F r G H st) (E : RE K ca F r σ env) {dd : List D} {P : Hp → List Addr → Hp → Sto → List D → Prop} {Q : List V → Hp → Prop}
    (h : Post K ca W σ F r G (argM n dd am env st) P) (k : ∀ F' r' H' st' ds vs, Ex F F' → r <+: r' → SR K ca F' r' G H' st' → P F' r' H' st' (ds ++ dd) → (ds ++ dd).length = n → RVs K ca F' r' vs ds → Q vs H') : ta σ H Q := by
  refine a2 F r G σ H env st _ S E (Post.imp (Post.bind h) fun F1 r1 H1 s1 ds e1 p1 S1 h1 vs rv => ?_)
  by_cases c : (ds ++ dd).length = n
  · rw [if_pos c] at h1
    exact k F1 r1 H1 s1 ds vs e1 p1 S1 (h1 F1 r1 H1 (Evl.Ex.refl _) (List.prefix_refl _) S1) c rv
  · rw [if_neg c] at h1; exact h1.elim
/-- data that needs no heap, as default values -/
def RVd (K : PySem.W.Frag) (ca : CA) (dvs : List V) (dd : List D) : Prop := ∀ F r, RVs K ca F r dvs dd
theorem rvd_nil {K : PySem.W.Frag} : RVd K ca [] [] := fun _ _ => .nil
/-- f(e, ..) -/
theorem me_call {dvs : List V} {dd : List D} {dU : List Value} (F : Fk0 X ca k fa fd ps m) (ne : NoE m) (hr : Room k X.A) (hm : X.mg x = some (.ref fa)) (hk : PySem.W.keepIn X.K (.ref fa) = true) (hb : Binds X.K fd ps dU) (hd : Vals dvs dU) (hdd : RVd X.K ca dvs dd)
    (ha : MA X ca W (e :: es) am) (hg : Gl X x := by rfl) (hdb : (x == ("__debug__" : Str)) = false := by decide) (he : starEach (e :: es) X.env = (false, eval e X.env) :: starEach es X.env := by rfl) (hpl : (backTo pos (starEach es X.env)).any (·.1) = false := by rfl) :
    ME X ca W (.Call (.Name x p) (e :: es) [] pos) (callM m (argM ps.length dd am)) := by
  obtain ⟨ta, a1, a2⟩ := ha
  refine ⟨_, pe_call F hr hg hm hk hb hd pass0 a1 hdb he hpl, fun F r G σ H env st Q S E h => ?_⟩
  refine sim_args a2 S E (Post.bind h) fun F1 r1 H1 s1 ds vs e1 p1 S1 h1 hl rv => ?_
  have r2 := rv.append (hdd F1 r1)
  exact sp_of ne S1 r2 (by rw [r2.length]; exact hl) h1
theorem me_call0 {dvs : List V} {dd : List D} {dU : List Value} (F : Fk0 X ca k fa fd ps m) (ne : NoE m) (hr : Room k X.A) (hm : X.mg x = some (.ref fa)) (hk : PySem.W.keepIn X.K (.ref fa) = true) (hb : Binds X.K fd ps dU) (hd : Vals dvs dU) (hdd : RVd X.K ca dvs dd)
    (hg : Gl X x := by rfl) (hdb : (x == ("__debug__" : Str)) = false := by decide) : ME X ca W (.Call (.Name x p) [] [] pos) (callM m (argM ps.length dd nilA)) := by
  refine ⟨_, pe_call0 F hr hg hm hk hb hd pass0 hdb, fun F r G σ H env st Q S E h => ?_⟩
  refine sim_args (ta := tNil) (am := nilA) (K := X.K) (fun F r G σ H env st Q S E h => h F r H (Evl.Ex.refl _) (List.prefix_refl _) S [] .nil) S E (Post.bind h) fun F1 r1 H1 s1 ds vs e1 p1 S1 h1 hl rv => ?_
  have r2 := rv.append (hdd F1 r1)
  exact sp_of ne S1 r2 (by rw [r2.length]; exact hl) h1
/-- o.m(e, ..) of an object of the class c -/
def mthM (c : Nat) (m : FM) (fo : EM) (a : AM) : EM := fun env st => (fo env st).bind fun d s => match objD d s with
  | some (c', _) => if c' = c then (a env s).bind fun ds s => m (d :: ds) s else .bad
  | none => .bad
theorem me_meth {dvs : List V} {dd : List D} {dU : List Value} {p0 : Str} {pl : Sem Bool} (hc : Cls X.K (ca c)) (hmt : Meth X.K (ca c) x fa) (hx : x ∉ lay c) (F : Fk0 X ca k fa fd (p0 :: ps) m) (ne : NoE m) (hr : Room k X.A) (hb : Binds X.K fd (p0 :: ps) dU) (hd : Vals dvs dU) (hdd : RVd X.K ca dvs dd)
    (ho : ME X ca W o fo) (ha : MA X ca W (e :: es) am)
    (hst : starEach (e :: es) X.env = (false, eval e X.env) :: starEach es X.env := by rfl) (hpl : (backTo pos (starEach es X.env)).any (·.1) = false := by rfl)
    (ht : eval (.Call (.Attribute o x apos) (e :: es) [] pos) X.env = (do
      let ov ← eval o X.env
      standAt apos.atName
      let (f, first) ← holding [ov] (getMethod ov x pl)
      callWith pos f first (backTo pos (starEach (e :: es) X.env)) (backToKw pos (keywordEach [] X.env))) := by rfl) :
    ME X ca W (.Call (.Attribute o x apos) (e :: es) [] pos) (mthM c m fo (argM ps.length dd am)) := by
  obtain ⟨to, b1, b2⟩ := ho
  obtain ⟨ta, a1, a2⟩ := ha
  refine ⟨_, pe_meth b1 hc hmt F hr hb hd pass0 a1 hst hpl ht, fun F r G σ H env st Q S E h => ?_⟩
  refine b2 F r G σ H env st _ S E (Post.imp (Post.bind h) fun F1 r1 H1 s1 d e1 p1 S1 h1 v rv => ?_)
  cases z : objD d s1 with
  | none => simp only [z] at h1; exact h1.elim
  | some cd =>
    obtain ⟨c', ds0⟩ := cd
    simp only [z] at h1
    by_cases ec : c' = c
    · rw [if_pos ec] at h1
      subst ec
      obtain ⟨a, dx, xs, rfl, g1, g2, q⟩ := objD_at S1 rv z
      refine ⟨a, dx, _, rfl, g1, zip_none hx _, sim_args a2 S1 (E.mono e1 p1) (Post.bind h1) fun F2 r2 H2 s2 ds vs e2 p2 S2 h2 hl rvs => ?_⟩
      have r3 := RVs.cons (rv.mono e2 p2) (rvs.append (hdd F2 r2))
      exact sp_of ne S2 r3 (by rw [r3.length, List.length_cons, List.length_cons, hl]) h2
    · rw [if_neg ec] at h1; exact h1.elim
theorem me_meth0 {dvs : List V} {dd : List D} {dU : List Value} {p0 : Str} {pl : Sem Bool} (hc : Cls X.K (ca c)) (hmt : Meth X.K (ca c) x fa) (hx : x ∉ lay c) (F : Fk0 X ca k fa fd (p0 :: ps) m) (ne : NoE m) (hr : Room k X.A) (hb : Binds X.K fd (p0 :: ps) dU) (hd : Vals dvs dU) (hdd : RVd X.K ca dvs dd)
    (ho : ME X ca W o fo)
    (ht : eval (.Call (.Attribute o x apos) [] [] pos) X.env = (do
      let ov ← eval o X.env
      standAt apos.atName
      let (f, first) ← holding [ov] (getMethod ov x pl)
      callWith pos f first (backTo pos (starEach [] X.env)) (backToKw pos (keywordEach [] X.env))) := by rfl) :
    ME X ca W (.Call (.Attribute o x apos) [] [] pos) (mthM c m fo (argM ps.length dd nilA)) := by
  obtain ⟨to, b1, b2⟩ := ho
  refine ⟨_, pe_meth0 b1 hc hmt F hr hb hd pass0 ht, fun F r G σ H env st Q S E h => ?_⟩
  refine b2 F r G σ H env st _ S E (Post.imp (Post.bind h) fun F1 r1 H1 s1 d e1 p1 S1 h1 v rv => ?_)
  cases z : objD d s1 with
  | none => simp only [z] at h1; exact h1.elim
  | some cd =>
    obtain ⟨c', ds0⟩ := cd
    simp only [z] at h1
    by_cases ec : c' = c
    · rw [if_pos ec] at h1
      subst ec
      obtain ⟨a, dx, xs, rfl, g1, g2, q⟩ := objD_at S1 rv z
      refine ⟨a, dx, _, rfl, g1, zip_none hx _, sim_args (ta := tNil) (am := nilA) (K := X.K) (fun F r G σ H env st Q S E h => h F r H (Evl.Ex.refl _) (List.prefix_refl _) S [] .nil) S1 (E.mono e1 p1) (Post.bind h1) fun F2 r2 H2 s2 ds vs e2 p2 S2 h2 hl rvs => ?_⟩
      have r3 := RVs.cons (rv.mono e2 p2) (rvs.append (hdd F2 r2))
      exact sp_of ne S2 r3 (by rw [r3.length, List.length_cons, List.length_cons, hl]) h2
    · rw [if_neg ec] at h1; exact h1.elim
/-- o.x, a property -/
def prpM (c : Nat) (m : FM) (fo : EM) : EM := fun env st => (fo env st).bind fun d s => match objD d s with
  | some (c', _) => if c' = c then m [d] s else .bad
  | none => .bad
theorem me_prop {pp : Addr} (hc : Cls X.K (ca c)) (hp : PropOf X.K (ca c) x pp fa) (F : Fk0 X ca k fa fd ps m) (ne : NoE m) (hps : ps.length = 1) (hr : Room (k + 1) X.A) (hb : Binds X.K fd ps []) (ho : ME X ca W o fo)
    (hab : attributeBase o x X.env (eval o X.env) = eval o X.env := by rfl) : ME X ca W (.Attribute o x pos) (prpM c m fo) := by
  obtain ⟨to, b1, b2⟩ := ho
  refine ⟨_, pe_prop b1 hc hp F hr hb .nil pass0 hab, fun F r G σ H env st Q S E h => ?_⟩
  refine b2 F r G σ H env st _ S E (Post.imp (Post.bind h) fun F1 r1 H1 s1 d e1 p1 S1 h1 v rv => ?_)
  cases z : objD d s1 with
  | none => simp only [z] at h1; exact h1.elim
  | some cd =>
    obtain ⟨c', ds0⟩ := cd
    simp only [z] at h1
    by_cases ec : c' = c
    · rw [if_pos ec] at h1
      subst ec
      obtain ⟨a, dx, xs, rfl, g1, g2, q⟩ := objD_at S1 rv z
      exact ⟨a, dx, _, rfl, g1, sp_of ne S1 (.cons rv .nil) (by rw [hps]; rfl) h1⟩
    · rw [if_neg ec] at h1; exact h1.elim
/-- len(o), the class's own __len__ -/
def lenOM (c : Nat) (m : FM) (f : EM) : EM := fun env st => (f env st).bind fun d s => match objD d s with
  | some (c', _) => if c' = c then (m [d] s).bind fun n s2 => match n with
    | .int n => if 0 ≤ n ∧ n < 2 ^ 63 then .ok (.int n) s2 else .bad
    | _ => .bad else .bad
  | none => .bad
theorem len_ok {sp : Sp} {C a dx : Addr} {fs : List (Str × V)} {pins : List (Addr × Obj)} {σ : L2.St} {H : Hp} {s : Shared} {Q : VK} (I : Inv X pins σ H s) (ea : H a = some (.ins C dx fs)) (hs : PySem.W.findIn X.K (.ref C) "__len__" = some (some (.ref fa))) (hf : PySem.W.isFn X.K (.ref fa) = true)
    (F : FnOk X.prog X.w X.K X.mg X.base CX0 k fa fd ps sp) (hr : Room (k + 1) X.A) (hb : Binds X.K fd ps []) (h : sp [.ref a] H (fun v H2 => ∃ n : Int, v = .int n ∧ 0 ≤ n ∧ n < 2 ^ 63 ∧ Q (.int n) H2) E0) :
    wpAny (model X.prog X.w) X.A (call (.builtin "len") [.ref a]) (EP X pins σ Q) X.xe s := by
  obtain ⟨mA, O, _, _, _, _⟩ := ins_get I.hok ea
  obtain ⟨od, J, _⟩ := O.look
  obtain ⟨m, fr⟩ := I.fr
  refine PySem.W.len_K fr I.mod.kin J hs hf (wpAny_call (codeAny_mono (F.run X.A.in1 X.stack s H ⟨[.ref a], []⟩ [.ref a] [.ref a] _ E0 hr.in1 I.env0.in1 (hb _ [.ref a] I.kIn (by
    have := F.len _ _ _ _ h
    exact this)) (.cons rfl .nil) h) fun r s' hq => ?_))
  cases r with
  | error er => exact hq.elim
  | ok fl =>
    cases fl with
    | ret u =>
      obtain ⟨v, H', I3, rv, n, rfl, h0, h1, q3⟩ := I.after hq
      obtain ⟨t, rfl⟩ := rv
      exact ⟨⟨h0, h1⟩, ⟨.int n, H', I3.tok _, ⟨_, rfl⟩, q3⟩⟩
    | next => exact hq.elim
    | brk => exact hq.elim
    | cont => exact hq.elim
theorem me_lenO (hm : X.mg "len" = none) (hs : PySem.W.findIn X.K (.ref (ca c)) "__len__" = some (some (.ref fa))) (hf : PySem.W.isFn X.K (.ref fa) = true) (F : Fk0 X ca k fa fd ps m) (ne : NoE m) (hps : ps.length = 1) (hr : Room (k + 1) X.A) (hb : Binds X.K fd ps [])
    (he : ME X ca W e f) (hg : Gl X "len" := by rfl) (h1 : starEach [e] X.env = (false, eval e X.env) :: starEach [] X.env := by rfl) (hpl : (backTo pos (starEach [] X.env)).any (·.1) = false := by rfl) : ME X ca W (.Call (.Name "len" p) [e] [] pos) (lenOM c m f) := by
  obtain ⟨te, a1, a2⟩ := he
  have hc : CallR X (.builtin "len") (fun xs H Q => ∃ a dx fs, xs = [.ref a] ∧ H a = some (.ins (ca c) dx fs) ∧ spM X.K ca ps.length m [.ref a] H (fun v H2 => ∃ n : Int, v = .int n ∧ 0 ≤ n ∧ n < 2 ^ 63 ∧ Q (.int n) H2) E0) := by
    intro pins s σ H xs us Q I r h
    obtain ⟨a, dx, fs, rfl, h1, h2⟩ := h
    obtain rfl := Vals.ref1 r
    exact len_ok I h1 hs hf F hr hb h2
  refine ⟨_, pe_callB hc hg hm (by decide +kernel) (pa_cons a1 pa_nil h1) (by decide) (by decide) h1 hpl, fun F r G σ H env st Q S E h => ?_⟩
  refine a2 F r G σ H env st _ S E (Post.imp (Post.bind h) fun F1 r1 H1 s1 d e1 p1 S1 h1 v rv => ?_)
  cases z : objD d s1 with
  | none => simp only [z] at h1; exact h1.elim
  | some cd =>
    obtain ⟨c', ds0⟩ := cd
    simp only [z] at h1
    by_cases ec : c' = c
    · rw [if_pos ec] at h1
      subst ec
      obtain ⟨a, dx, xs, rfl, g1, g2, q⟩ := objD_at S1 rv z
      refine ⟨a, dx, _, rfl, g1, sp_of (W := W) (σ := σ) ne S1 (.cons rv .nil) (by rw [hps]; rfl) (Post.imp (Post.bind h1) fun F2 r2 H2 s2 n e2 p2 S2 h2 v2 rv2 => ?_)⟩
      cases rv2 with
      | int n =>
        replace h2 : Post X.K ca W σ F2 r2 G (if 0 ≤ n ∧ n < 2 ^ 63 then Res.ok (D.int n) s2 else .bad) (WV X.K ca Q) := h2
        by_cases cn : 0 ≤ n ∧ n < 2 ^ 63
        · rw [if_pos cn] at h2
          exact ⟨n, rfl, cn.1, cn.2, h2 F2 r2 H2 (Evl.Ex.refl _) (List.prefix_refl _) S2 _ (.int n)⟩
        · rw [if_neg cn] at h2; exact h2.elim
      | _ => exact h2.elim
    · rw [if_neg ec] at h1; exact h1.elim
end
/-! ### classes called -/
/-- C(e, ..): a new object, owned, and its __init__ -/
def newM (c : Nat) (m : FM) (a : AM) : EM := fun env st => (a env st).bind fun ds s => (m (.own s.length :: ds) (s ++ [.obj c []])).bind fun d s2 => match d with
  | .non => .ok (.own s.length) s2
  | _ => .bad
open Classical in
/-- .. that stands still from now on -/
noncomputable def nwzM (c : Nat) (m : FM) (a : AM) : EM := fun env st => (a env st).bind fun ds s => (m (.own s.length :: ds) (s ++ [.obj c []])).bind fun d s2 => match d, s2[s.length]? with
  | .non, some (.obj c' es) => if c' = c ∧ es.length = (lay c).length ∧ cloAll s.length es = true ∧ tame s s2 then .ok (.obj c es) (s2.take s.length) else .bad
  | _, _ => .bad
section
variable {X : Cx} {ca : CA} {W : WX} {o e : Expr} {es : List Expr} {f fo : EM} {am : AM} {p pos apos : Pos} {k : Nat} {fa : Addr} {fd : FuncData} {ps : List Str} {m : FM} {x : Str} {c : Nat}
theorem SR.made {K : PySem.W.Frag} {F G H : Hp} {r : List Addr} {st : Sto} (S : SR K ca F r G H st) {y dx : Addr} (h1 : H y = none) (h2 : H dx = none) (hne : dx ≠ y) : SR K ca F (r ++ [y]) G (L2.upd (L2.upd H dx (.own y)) y (.ins (ca c) dx [])) (st ++ [.obj c []]) := by
  have S1 := S.upd (.own y) (S.free h2)
  have h3 : (L2.upd H dx (.own y)) y = none := by rw [upd_ne (Ne.symm hne)]; exact h1
  have S2 := S1.upd (.ins (ca c) dx []) (S1.free h3)
  refine S2.owned (S1.free h3) upd_same ⟨(S1.free h3).f, dx, [], ?_, Nat.zero_le _, .nil⟩
  rw [List.zip_nil_right]
theorem own_last {K : PySem.W.Frag} {F : Hp} {r : List Addr} {y : Addr} {st : Sto} (hl : r.length = st.length) : RV K ca F (r ++ [y]) (.ref y) (.own st.length) := .own (by rw [List.getElem?_append_right (by omega), hl]; simp)
theorem me_new {dvs : List V} {dd : List D} {dU : List Value} {p0 : Str} (M : Mk X.K (ca c) fa) (F : Fk0 X ca k fa fd (p0 :: ps) m) (ne : NoE m) (hr : Room (k + 1) X.A) (hm : X.mg x = some (.ref (ca c))) (hb : Binds X.K fd (p0 :: ps) dU) (hd : Vals dvs dU) (hdd : RVd X.K ca dvs dd)
    (ha : MA X ca W (e :: es) am) (hg : Gl X x := by rfl) (hdb : (x == ("__debug__" : Str)) = false := by decide) (he : starEach (e :: es) X.env = (false, eval e X.env) :: starEach es X.env := by rfl) (hpl : (backTo pos (starEach es X.env)).any (·.1) = false := by rfl) :
    ME X ca W (.Call (.Name x p) (e :: es) [] pos) (newM c m (argM ps.length dd am)) := by
  obtain ⟨ta, a1, a2⟩ := ha
  refine ⟨_, pe_make M F hr hg hm hb hd pass0 a1 hdb he hpl, fun F r G σ H env st Q S E h => ?_⟩
  refine sim_args a2 S E (Post.bind h) fun F1 r1 H1 s1 ds vs e1 p1 S1 h1 hl rv => ?_
  intro y dx hy hdx hne
  have S2 := S1.made (c := c) hy hdx hne
  have r2 := rv.append (hdd F1 r1)
  have r3 := RVs.cons (own_last (K := X.K) (ca := ca) (F := F1) (y := y) S1.len) (r2.mono (Evl.Ex.refl _) (List.prefix_append r1 [y]))
  refine sp_of (W := W) (σ := σ) ne S2 r3 (by rw [r3.length, List.length_cons, List.length_cons, hl]) (Post.imp (Post.mono (Evl.Ex.refl _) (List.prefix_append r1 [y]) (Post.bind h1)) fun F3 r3 H3 s3 d e3 p3 S3 h3 v3 rv3 => ?_)
  cases rv3 with
  | non => exact ⟨rfl, h3 F3 r3 H3 (Evl.Ex.refl _) (List.prefix_refl _) S3 _ ((own_last S1.len).mono e3 p3)⟩
  | _ => exact h3.elim
theorem me_nwz {dvs : List V} {dd : List D} {dU : List Value} {p0 : Str} (M : Mk X.K (ca c) fa) (F : Fk0 X ca k fa fd (p0 :: ps) m) (ne : NoE m) (hr : Room (k + 1) X.A) (hm : X.mg x = some (.ref (ca c))) (hb : Binds X.K fd (p0 :: ps) dU) (hd : Vals dvs dU) (hdd : RVd X.K ca dvs dd)
    (ha : MA X ca W (e :: es) am) (hg : Gl X x := by rfl) (hdb : (x == ("__debug__" : Str)) = false := by decide) (he : starEach (e :: es) X.env = (false, eval e X.env) :: starEach es X.env := by rfl) (hpl : (backTo pos (starEach es X.env)).any (·.1) = false := by rfl) :
    ME X ca W (.Call (.Name x p) (e :: es) [] pos) (nwzM c m (argM ps.length dd am)) := by
  obtain ⟨ta, a1, a2⟩ := ha
  refine ⟨_, pe_make M F hr hg hm hb hd pass0 a1 hdb he hpl, fun F r G σ H env st Q S E h => ?_⟩
  refine sim_args a2 S E (Post.bind h) fun F1 r1 H1 s1 ds vs e1 p1 S1 h1 hl rv => ?_
  intro y dx hy hdx hne
  have S2 := S1.made (c := c) hy hdx hne
  have r2 := rv.append (hdd F1 r1)
  have r3 := RVs.cons (own_last (K := X.K) (ca := ca) (F := F1) (y := y) S1.len) (r2.mono (Evl.Ex.refl _) (List.prefix_append r1 [y]))
  refine ⟨F1, r1 ++ [y], G, _, _, S2, r3, by rw [r3.length, List.length_cons, List.length_cons, hl], ?_⟩
  cases zm : m (D.own s1.length :: (ds ++ dd)) (s1 ++ [.obj c []]) with
  | er x s3 => exact absurd zm (ne _ _ _ _)
  | bad => rw [zm] at h1; exact h1.elim
  | ok d s3 =>
    rw [zm] at h1
    intro F3 r3 H3 e3 p3 S3 v3 rv3
    cases rv3 with
    | non =>
      refine ⟨rfl, ?_⟩
      cases z : s3[s1.length]? with
      | none => simp only [Res.bind_ok, z] at h1; exact h1.elim
      | some mo =>
        cases mo with
        | obj c' zs =>
          simp only [Res.bind_ok, z] at h1
          split at h1
          · rename_i cc
            obtain ⟨rfl, c2, c3, c4⟩ := cc
            have p4 : r1 <+: r3 := (List.prefix_append r1 [y]).trans p3
            have hy3 : r3[s1.length]? = some y := pre_get p3 (by rw [List.getElem?_append_right (by rw [S1.len]; exact Nat.le_refl _), S1.len]; simp)
            obtain ⟨g0, dx3, xs, g1, g2, g3⟩ := S3.ob _ _ _ z hy3
            have S4 := S1.cut S3 p4 c4
            have fy : Free F3 r1 G y := ⟨g0, fun hh => S1.fresh_r hy hh, S1.fresh_G hy⟩
            have S5 := S4.freeze fy g1
            have q5 := (g3.back p4 (by rw [S1.len]; exact c3)).mono (Evl.Ex.new (o := .ins (ca c') dx3 ((lay c').zip xs)) g0) (List.prefix_refl _)
            exact h1 _ r1 H3 (e3.trans (Evl.Ex.new g0)) (List.prefix_refl _) S5 _ (.obj upd_same (by rw [g3.length]; exact c2) q5)
          · exact h1.elim
        | _ => simp only [Res.bind_ok, z] at h1; exact h1.elim
    | _ => exact h1.elim
/-- C() of a class without an __init__ -/
theorem pe_new0 {C : Addr} (hm : X.mg x = some (.ref C)) (hmk : PySem.W.makesIn X.K C = true) (hi : PySem.W.findIn X.K (.ref C) "__init__" = some (some (.builtin "object.__init__"))) (hk : PySem.W.keepIn X.K (.ref C) = true) (hg : Gl X x := by rfl) (hdb : (x == ("__debug__" : Str)) = false := by decide) :
    PE X (.Call (.Name x p) [] [] pos) (fun _ H Q => ∀ y dx, H y = none → H dx = none → dx ≠ y → Q (.ref y) (L2.upd (L2.upd H dx (.own y)) y (.ins C dx []))) := by
  refine ⟨fun pins s σ H Q I h => ?_⟩
  refine wpAny_Call_Name_kw (ld_glob I hg hm ?_ hdb)
  refine PySem.W.callWith_K0 I.kIn hk ?_
  have hq := h (s.heap.objs.size + 1) s.heap.objs.size (I.hok.fresh (Nat.le_succ _)) (I.hok.fresh (Nat.le_refl _)) (Nat.ne_of_lt (Nat.lt_succ_self _))
  have I2 := Inv.made (C := C) I
  refine wpAny_call (make_map0 I.kIn hmk hi (fun self => PySem.W.Looks.of_pure (PySem.W.oi_bind self)) ?_)
  have Y := PySem.W.makes_of (M := model X.prog X.w) I.kIn hmk
  have t1 : PySem.W.Looks (model X.prog X.w) ((s.heap.push PySem.W.emptyDict).push (PySem.W.instObj C s.heap.objs.size)) (typeOf (.ref (s.heap.objs.size + 1))) (.ref C) := (PySem.W.Looks.ld (by rw [← Heap.size_push s.heap PySem.W.emptyDict]; exact Heap.get?_push_size _ rfl)).andThen .now
  have t2 : PySem.W.Looks (model X.prog X.w) ((s.heap.push PySem.W.emptyDict).push (PySem.W.instObj C s.heap.objs.size)) (isInstance (.ref (s.heap.objs.size + 1)) (.type "object")) true := t1.andThen (Y.top.keeps fun b o e => Heap.get?_push_of_some _ (Heap.get?_push_of_some _ e))
  refine codeAny_call_builtin PySem.W.oi_plain PySem.W.entry_oi (@PySem.W.check_slot (model X.prog X.w) _ _ _ "object.__init__" "object" "__init__" (.ref (s.heap.objs.size + 1)) [] [] _ PySem.W.oi_kind PySem.W.oi_split t2 (PySem.W.oi_args (.ref (s.heap.objs.size + 1))) ?_)
  rw [PySem.W.oi_run]
  exact wpAny_pure (And.intro rfl ⟨V.ref (s.heap.objs.size + 1), _, I2, rfl, hq⟩)
theorem me_new0 (hm : X.mg x = some (.ref (ca c))) (hmk : PySem.W.makesIn X.K (ca c) = true) (hi : PySem.W.findIn X.K (.ref (ca c)) "__init__" = some (some (.builtin "object.__init__"))) (hk : PySem.W.keepIn X.K (.ref (ca c)) = true) (hl : lay c = []) (hg : Gl X x := by rfl) (hdb : (x == ("__debug__" : Str)) = false := by decide) :
    ME X ca W (.Call (.Name x p) [] [] pos) (cM (.obj c [])) := by
  refine ⟨_, pe_new0 hm hmk hi hk hg hdb, fun F r G σ H env st Q S E h => ?_⟩
  intro y dx hy hdx hne
  have S1 := S.upd (.own y) (S.free hdx)
  have h3 : (L2.upd H dx (.own y)) y = none := by rw [upd_ne (Ne.symm hne)]; exact hy
  have S2 := S1.newF (o := .ins (ca c) dx []) h3
  exact h _ r _ (Evl.Ex.new (S1.fresh_F h3)) (List.prefix_refl _) S2 _ (.obj (dx := dx) (xs := []) (by rw [List.zip_nil_right]; exact upd_same) (by rw [hl]; rfl) .nil)
end
/-! ### loops -/
/-- what an iterator yields -/
def Yields (K : PySem.W.Frag) (ca : CA) (J : It) (F : Hp) (r : List Addr) (G : Hp) (ds : List D) : Prop := ∀ (i : Nat) F2 r2 H2 st2, Ex F F2 → r <+: r2 → SR K ca F2 r2 G H2 st2 →
  (∀ d, ds[i]? = some d → J.go i H2 ∧ ∀ x H3, J.yld i H2 x H3 → ∃ F3, Ex F2 F3 ∧ SR K ca F3 r2 G H3 st2 ∧ RV K ca F3 r2 x d) ∧ (ds.length ≤ i → J.stop i H2)
/-- G: also what is held besides -/
def YieldsA (K : PySem.W.Frag) (ca : CA) (J : It) (F : Hp) (r : List Addr) (ds : List D) : Prop := ∀ G, Yields K ca J F r G ds
def SimI (K : PySem.W.Frag) (ca : CA) (W : WX) (wi : TI) (f : AM) : Prop := ∀ F r G σ H env st (R : It → Hp → Prop), SR K ca F r G H st → RE K ca F r σ env →
  Post K ca W σ F r G (f env st) (fun F' r' H' _ ds => ∀ J, YieldsA K ca J F' r' ds → R J H') → wi σ H R
structure MI (X : Cx) (ca : CA) (W : WX) (tg iter : Expr) (f : AM) : Prop where
  h : ∃ t, PI X tg iter t ∧ SimI X.K ca W t f
/-- a list that stands still, the script -/
def ldL (st : Sto) : D → Option (List D)
  | .lst ds => some ds
  | .scr ns => some (ns.map .int)
  | .own k => match st[k]? with
    | some (.fz ds) => some ds
    | _ => none
  | _ => none
section
variable {K : PySem.W.Frag} {ca : CA} {F G H : Hp} {r : List Addr} {st : Sto}
theorem ldL_at (S : SR K ca F r G H st) {v : V} {d : D} {ds : List D} (rv : RV K ca F r v d) (h : ldL st d = some ds) : ∃ a xs, v = .ref a ∧ SqL K F a xs ∧ RVs K ca F r xs ds := by
  cases rv with
  | lst h1 q => cases h; exact ⟨_, _, rfl, SqL.of h1, q⟩
  | scr h1 => cases h; exact ⟨_, _, rfl, h1, RVs.ints _⟩
  | own hk =>
    rename_i a k
    replace h : (match st[k]? with
      | some (.fz ds) => some ds
      | _ => none) = some ds := h
    split at h
    · rename_i e
      cases h
      obtain ⟨xs, h1, h2⟩ := S.ob k _ a e hk
      exact ⟨a, xs, rfl, SqL.of h1, h2⟩
    · cases h
  | _ => cases h
theorem y_list {a : Addr} {xs : List V} {ds : List D} (h : SqL K F a xs) (q : RVs K ca F r xs ds) : YieldsA K ca (Itl K a) F r ds := fun G i F2 r2 H2 st2 e p S => by
  have h2 : SqL K H2 a xs := Evl.ex_l (e.trans S.exF) h
  refine ⟨fun d hd => ?_, fun hl => ⟨xs, h2, by rw [q.length]; exact hl⟩⟩
  obtain ⟨v, h3, h4⟩ := q.get hd
  refine ⟨⟨xs, v, h2, h3⟩, fun x H3 hy => ?_⟩
  obtain ⟨rfl, hy⟩ := hy
  have := hy xs h2
  rw [h3] at this
  cases this
  exact ⟨F2, Evl.Ex.refl _, S, h4.mono e p⟩
theorem y_tup {a : Addr} {xs : List V} {ds : List D} (h : SqT K F a xs) (q : RVs K ca F r xs ds) : YieldsA K ca (Itt K a) F r ds := fun G i F2 r2 H2 st2 e p S => by
  have h2 : SqT K H2 a xs := Evl.ex_t (e.trans S.exF) h
  refine ⟨fun d hd => ?_, fun hl => ⟨xs, h2, by rw [q.length]; exact hl⟩⟩
  obtain ⟨v, h3, h4⟩ := q.get hd
  refine ⟨⟨xs, v, h2, h3⟩, fun x H3 hy => ?_⟩
  obtain ⟨rfl, hy⟩ := hy
  have := hy xs h2
  rw [h3] at this
  cases this
  exact ⟨F2, Evl.Ex.refl _, S, h4.mono e p⟩
def rgD (lo : Int) (n : Nat) : List D := (List.range n).map fun (i : Nat) => D.int (lo + i)
theorem rgD_get {lo : Int} {n i : Nat} {d : D} (h : (rgD lo n)[i]? = some d) : i < n ∧ d = .int (lo + i) := by
  unfold rgD at h
  rw [List.getElem?_map] at h
  cases z : (List.range n)[i]? with
  | none => rw [z] at h; cases h
  | some j =>
    rw [z] at h
    obtain ⟨h1, h2⟩ := List.getElem?_eq_some_iff.mp z
    rw [List.length_range] at h1
    rw [List.getElem_range] at h2
    subst h2
    exact ⟨h1, (Option.some.inj h).symm⟩
theorem rgD_len (lo : Int) (n : Nat) : (rgD lo n).length = n := by unfold rgD; rw [List.length_map, List.length_range]
theorem y_range (lo : Int) (n : Nat) : YieldsA K ca (Itr lo n) F r (rgD lo n) := fun G i F2 r2 H2 st2 e p S => by
  refine ⟨fun d hd => ?_, fun hl => by rw [rgD_len] at hl; exact hl⟩
  obtain ⟨h1, rfl⟩ := rgD_get hd
  refine ⟨h1, fun x H3 hy => ?_⟩
  obtain ⟨rfl, rfl⟩ := hy
  exact ⟨F2, Evl.Ex.refl _, S, .int _⟩
def enD (ds : List D) : List D := ds.zipIdx.map fun q => D.tup [.int (q.2 : Nat), q.1]
theorem enD_get {ds : List D} {i : Nat} {d : D} (h : (enD ds)[i]? = some d) : ∃ z, ds[i]? = some z ∧ d = .tup [.int (i : Nat), z] := by
  unfold enD at h
  rw [List.getElem?_map, List.getElem?_zipIdx] at h
  cases z : ds[i]? with
  | none => rw [z] at h; cases h
  | some w =>
    rw [z] at h
    refine ⟨w, rfl, ?_⟩
    have := Option.some.inj h
    rw [← this]
    simp
theorem enD_len (ds : List D) : (enD ds).length = ds.length := by unfold enD; rw [List.length_map, List.length_zipIdx]
theorem y_enum {a : Addr} {xs : List V} {ds : List D} (h : SqL K F a xs) (q : RVs K ca F r xs ds) : YieldsA K ca (Ite K a) F r (enD ds) := fun G i F2 r2 H2 st2 e p S => by
  have h2 : SqL K H2 a xs := Evl.ex_l (e.trans S.exF) h
  refine ⟨fun d hd => ?_, fun hl => ⟨xs, h2, by rw [q.length]; rw [enD_len] at hl; exact hl⟩⟩
  obtain ⟨z, hz, rfl⟩ := enD_get hd
  obtain ⟨v, h3, h4⟩ := q.get hz
  refine ⟨⟨xs, v, h2, h3⟩, fun x H3 hy => ?_⟩
  obtain ⟨T, y, rfl, hT, rfl, hy⟩ := hy
  have := hy xs h2
  rw [h3] at this
  cases this
  have e5 : Ex F2 (upd F2 T (.tup [.int (i : Nat), v])) := Evl.Ex.new (S.fresh_F hT)
  exact ⟨_, e5, S.newF hT, .tup (Evl.st_of upd_same) (.cons (.int _) (.cons ((h4.mono e p).mono e5 (List.prefix_refl _)) .nil))⟩
def zpD : List D → List D → List D
  | d :: ds, e :: es => .tup [d, e] :: zpD ds es
  | _, _ => []
theorem zpD_get : ∀ {ds es : List D} {i : Nat} {d : D}, (zpD ds es)[i]? = some d → ∃ z w, ds[i]? = some z ∧ es[i]? = some w ∧ d = .tup [z, w]
  | [], _, i, d, h => by unfold zpD at h; simp at h
  | _ :: _, [], i, d, h => by unfold zpD at h; simp at h
  | d :: ds, e :: es, 0, x, h => by unfold zpD at h; simp at h; exact ⟨d, e, rfl, rfl, h.symm⟩
  | d :: ds, e :: es, i + 1, x, h => by
    unfold zpD at h
    obtain ⟨z, w, h1, h2, h3⟩ := zpD_get (i := i) (by simpa using h)
    exact ⟨z, w, by simpa using h1, by simpa using h2, h3⟩
theorem zpD_len : ∀ (ds es : List D), (zpD ds es).length = min ds.length es.length
  | [], _ => by unfold zpD; simp
  | _ :: _, [] => by unfold zpD; simp
  | d :: ds, e :: es => by unfold zpD; rw [List.length_cons, zpD_len ds es, List.length_cons, List.length_cons]; omega
theorem y_zip {a b : Addr} {xs ys : List V} {ds es : List D} (h : SqL K F a xs) (h' : SqL K F b ys) (q : RVs K ca F r xs ds) (q' : RVs K ca F r ys es) : YieldsA K ca (Itz K a b) F r (zpD ds es) := fun G i F2 r2 H2 st2 e p S => by
  have h2 : SqL K H2 a xs := Evl.ex_l (e.trans S.exF) h
  have h2' : SqL K H2 b ys := Evl.ex_l (e.trans S.exF) h'
  refine ⟨fun d hd => ?_, fun hl => ⟨xs, ys, h2, h2', by rw [q.length, q'.length]; rw [zpD_len] at hl; omega⟩⟩
  obtain ⟨z, w, hz, hw, rfl⟩ := zpD_get hd
  obtain ⟨v, h3, h4⟩ := q.get hz
  obtain ⟨v', h3', h4'⟩ := q'.get hw
  refine ⟨⟨xs, ys, v, v', h2, h2', h3, h3'⟩, fun x H3 hy => ?_⟩
  obtain ⟨T, y, y', rfl, hT, rfl, hy, hy'⟩ := hy
  have := hy xs h2
  rw [h3] at this
  cases this
  have := hy' ys h2'
  rw [h3'] at this
  cases this
  have e5 : Ex F2 (upd F2 T (.tup [v, v'])) := Evl.Ex.new (S.fresh_F hT)
  exact ⟨_, e5, S.newF hT, .tup (Evl.st_of upd_same) (.cons ((h4.mono e p).mono e5 (List.prefix_refl _)) (.cons ((h4'.mono e p).mono e5 (List.prefix_refl _)) .nil))⟩
def chD (x : Str) : List D := x.cps.toList.map fun c => D.str ⟨#[c]⟩
theorem y_str (x : Str) : YieldsA K ca (Its x) F r (chD x) := fun G i F2 r2 H2 st2 e p S => by
  refine ⟨fun d hd => ?_, fun hl => by unfold chD at hl; rw [List.length_map] at hl; show x.cps.size ≤ i; simpa using hl⟩
  unfold chD at hd
  rw [List.getElem?_map] at hd
  cases z : x.cps.toList[i]? with
  | none => rw [z] at hd; cases hd
  | some c =>
    rw [z] at hd
    cases hd
    have z2 : x.cps[i]? = some c := by simpa using z
    refine ⟨(Array.getElem?_eq_some_iff.mp z2).1, fun v H3 hy => ?_⟩
    obtain ⟨rfl, c', h1, rfl⟩ := hy
    rw [z2] at h1
    cases h1
    exact ⟨F2, Evl.Ex.refl _, S, .str _⟩
end
def itL (f : EM) : AM := fun env st => (f env st).bind fun d s => Res.ofL (ldL s d) s
def itT (f : EM) : AM := fun env st => (f env st).bind fun d s => match d with
  | .tup ds => .ok ds s
  | _ => .bad
def itS (f : EM) : AM := fun env st => (f env st).bind fun d s => match d with
  | .str x => .ok (chD x) s
  | _ => .bad
def rgM (a : AM) : AM := fun env st => (a env st).bind fun ds s => match ds with
  | [.int j] => if -(2 ^ 62) ≤ j ∧ j < 2 ^ 62 then .ok (rgD 0 j.toNat) s else .bad
  | _ => .bad
def rg2M (a : AM) : AM := fun env st => (a env st).bind fun ds s => match ds with
  | [.int i, .int j] => if (-(2 ^ 62) ≤ i ∧ i < 2 ^ 62) ∧ -(2 ^ 62) ≤ j ∧ j < 2 ^ 62 then .ok (rgD i (j - i).toNat) s else .bad
  | _ => .bad
def enM (a : AM) : AM := fun env st => (a env st).bind fun ds s => match ds with
  | [d] => Res.ofL ((ldL s d).map enD) s
  | _ => .bad
def zpM (a : AM) : AM := fun env st => (a env st).bind fun ds s => match ds with
  | [d, e] => Res.ofL ((ldL s d).bind fun xs => (ldL s e).map fun ys => zpD xs ys) s
  | _ => .bad
section
variable {X : Cx} {ca : CA} {W : WX} {tg l a b : Expr} {es : List Expr} {f : EM} {am : AM} {p pos : Pos}
theorem mi_list (h : ME X ca W l f) : MI X ca W tg l (itL f) := by
  obtain ⟨tl, a1, a2⟩ := h
  refine ⟨_, pi_list a1, fun F r G σ H env st R S E h => ?_⟩
  refine a2 F r G σ H env st _ S E (Post.imp (Post.bind h) fun F1 r1 H1 s1 d e1 p1 S1 h1 v rv => ?_)
  cases z : ldL s1 d with
  | none => rw [z] at h1; exact h1.elim
  | some ds =>
    rw [z] at h1
    obtain ⟨x, xs, rfl, h2, q⟩ := ldL_at S1 rv z
    exact ⟨x, rfl, ⟨xs, Evl.ex_l S1.exF h2⟩, h1 F1 r1 H1 (Evl.Ex.refl _) (List.prefix_refl _) S1 _ (y_list h2 q)⟩
theorem mi_tup (h : ME X ca W l f) : MI X ca W tg l (itT f) := by
  obtain ⟨tl, a1, a2⟩ := h
  refine ⟨_, pi_tup a1, fun F r G σ H env st R S E h => ?_⟩
  refine a2 F r G σ H env st _ S E (Post.imp (Post.bind h) fun F1 r1 H1 s1 d e1 p1 S1 h1 v rv => ?_)
  cases rv with
  | tup h2 q => exact ⟨_, rfl, ⟨_, Evl.ex_t S1.exF h2⟩, h1 F1 r1 H1 (Evl.Ex.refl _) (List.prefix_refl _) S1 _ (y_tup h2 q)⟩
  | _ => exact h1.elim
theorem mi_str (h : ME X ca W l f) : MI X ca W tg l (itS f) := by
  obtain ⟨tl, a1, a2⟩ := h
  refine ⟨_, pi_str a1, fun F r G σ H env st R S E h => ?_⟩
  refine a2 F r G σ H env st _ S E (Post.imp (Post.bind h) fun F1 r1 H1 s1 d e1 p1 S1 h1 v rv => ?_)
  cases rv with
  | str x => exact ⟨x, rfl, h1 F1 r1 H1 (Evl.Ex.refl _) (List.prefix_refl _) S1 _ (y_str x)⟩
  | _ => exact h1.elim
theorem mi_rg (hm : X.mg "range" = none) (ha : MA X ca W [a] am) (hg : Gl X "range" := by rfl) (hs : starEach [a] X.env = [(false, eval a X.env)] := by rfl) : MI X ca W tg (.Call (.Name "range" p) [a] [] pos) (rgM am) := by
  obtain ⟨ta, a1, a2⟩ := ha
  refine ⟨_, pi_range1 hg hm a1 hs, fun F r G σ H env st R S E h => ?_⟩
  refine a2 F r G σ H env st _ S E (Post.imp (Post.bind h) fun F1 r1 H1 s1 ds e1 p1 S1 h1 vs rv => ?_)
  match ds, h1 with
  | [.int j], h1 =>
    obtain ⟨x, rfl, rx⟩ := rv.one
    cases rx
    replace h1 : Post X.K ca W σ F1 r1 G (if -(2 ^ 62) ≤ j ∧ j < 2 ^ 62 then Res.ok (rgD 0 j.toNat) s1 else .bad) (fun F' r' H' _ ds => ∀ J, YieldsA X.K ca J F' r' ds → R J H') := h1
    by_cases c : -(2 ^ 62) ≤ j ∧ j < 2 ^ 62
    · rw [if_pos c] at h1
      exact ⟨j, rfl, c.1, c.2, h1 F1 r1 H1 (Evl.Ex.refl _) (List.prefix_refl _) S1 _ (y_range 0 _)⟩
    · rw [if_neg c] at h1; exact h1.elim
  | [], h1 => exact h1.elim
  | [.non], h1 => exact h1.elim
  | [.bl _], h1 => exact h1.elim
  | [.str _], h1 => exact h1.elim
  | [.lst _], h1 => exact h1.elim
  | [.tup _], h1 => exact h1.elim
  | [.obj _ _], h1 => exact h1.elim
  | [.scr _], h1 => exact h1.elim
  | [.own _], h1 => exact h1.elim
theorem mi_rg2 (hm : X.mg "range" = none) (ha : MA X ca W [a, b] am) (hg : Gl X "range" := by rfl) (hs : starEach [a, b] X.env = [(false, eval a X.env), (false, eval b X.env)] := by rfl) (hs2 : starEach [b] X.env = [(false, eval b X.env)] := by rfl) : MI X ca W tg (.Call (.Name "range" p) [a, b] [] pos) (rg2M am) := by
  obtain ⟨ta, a1, a2⟩ := ha
  refine ⟨_, pi_range2 hg hm a1 hs hs2, fun F r G σ H env st R S E h => ?_⟩
  refine a2 F r G σ H env st _ S E (Post.imp (Post.bind h) fun F1 r1 H1 s1 ds e1 p1 S1 h1 vs rv => ?_)
  split at h1
  · rename_i i j
    obtain ⟨x, y, rfl, rx, ry⟩ := rv.two
    cases rx
    cases ry
    by_cases c : (-(2 ^ 62) ≤ i ∧ i < 2 ^ 62) ∧ -(2 ^ 62) ≤ j ∧ j < 2 ^ 62
    · rw [if_pos c] at h1
      exact ⟨i, j, rfl, ⟨c.1.1, c.1.2, c.2.1, c.2.2⟩, h1 F1 r1 H1 (Evl.Ex.refl _) (List.prefix_refl _) S1 _ (y_range i _)⟩
    · rw [if_neg c] at h1; exact h1.elim
  · exact h1.elim
theorem mi_en {elts : List Expr} {kk : Nat} {tpos : Pos} (hm : X.mg "enumerate" = none) (ha : MA X ca W [a] am) (hg : Gl X "enumerate" := by rfl) (hs : starEach [a] X.env = [(false, eval a X.env)] := by rfl) : MI X ca W (.Tuple elts kk tpos) (.Call (.Name "enumerate" p) [a] [] pos) (enM am) := by
  obtain ⟨ta, a1, a2⟩ := ha
  refine ⟨_, pi_enum hg hm a1 hs, fun F r G σ H env st R S E h => ?_⟩
  refine a2 F r G σ H env st _ S E (Post.imp (Post.bind h) fun F1 r1 H1 s1 ds e1 p1 S1 h1 vs rv => ?_)
  split at h1
  · rename_i d
    obtain ⟨x, rfl, rx⟩ := rv.one
    cases z : ldL s1 d with
    | none => rw [z] at h1; exact h1.elim
    | some ds =>
      rw [z] at h1
      obtain ⟨y, xs, rfl, h2, q⟩ := ldL_at S1 rx z
      exact ⟨y, xs, rfl, Evl.ex_l S1.exF h2, h1 F1 r1 H1 (Evl.Ex.refl _) (List.prefix_refl _) S1 _ (y_enum h2 q)⟩
  · exact h1.elim
theorem mi_zp {elts : List Expr} {kk : Nat} {tpos : Pos} (hm : X.mg "zip" = none) (ha : MA X ca W [a, b] am) (hg : Gl X "zip" := by rfl) (hs : starEach [a, b] X.env = (false, eval a X.env) :: starEach [b] X.env := by rfl) (hpl : (backTo pos (starEach [b] X.env)).any (·.1) = false := by rfl) : MI X ca W (.Tuple elts kk tpos) (.Call (.Name "zip" p) [a, b] [] pos) (zpM am) := by
  obtain ⟨ta, a1, a2⟩ := ha
  refine ⟨_, pi_zip hg hm a1 hs hpl, fun F r G σ H env st R S E h => ?_⟩
  refine a2 F r G σ H env st _ S E (Post.imp (Post.bind h) fun F1 r1 H1 s1 ds e1 p1 S1 h1 vs rv => ?_)
  split at h1
  · rename_i d e
    obtain ⟨x, y, rfl, rx, ry⟩ := rv.two
    cases z : ldL s1 d with
    | none => rw [z] at h1; exact h1.elim
    | some ds =>
      cases z2 : ldL s1 e with
      | none => rw [z, z2] at h1; exact h1.elim
      | some es =>
        rw [z, z2] at h1
        obtain ⟨u, xs, rfl, h2, q⟩ := ldL_at S1 rx z
        obtain ⟨u', ys, rfl, h2', q'⟩ := ldL_at S1 ry z2
        exact ⟨u, u', xs, ys, rfl, Evl.ex_l S1.exF h2, Evl.ex_l S1.exF h2', h1 F1 r1 H1 (Evl.Ex.refl _) (List.prefix_refl _) S1 _ (y_zip h2 h2' q q')⟩
  · exact h1.elim
end
/-! for -/
def lpS (g : GM) (body : SM) : List D → Env → Sto → SRes
  | [], env, st => .nx env st
  | d :: ds, env, st => match g d env with
    | none => .bad
    | some env1 => match body env1 st with
      | .nx e s => lpS g body ds e s
      | .ct e s => lpS g body ds e s
      | .bk e s => .nx e s
      | y => y
def forS (it : AM) (g : GM) (body : SM) : SM := fun env st => (it env st).toS env fun ds s => lpS g body ds env s
/-- while, n turns at most -/
def whS (t : TM) (body : SM) : Nat → Env → Sto → SRes
  | 0, _, _ => .bad
  | n + 1, env, st => (t env st).toS env fun b s => if b = true then match body env s with
      | .nx e s => whS t body n e s
      | .ct e s => whS t body n e s
      | .bk e s => .nx e s
      | y => y else .nx env s
def whileS (n : Nat) (t : TM) (body : SM) : SM := fun env st => whS t body n env st
section
variable {X : Cx} {ca : CA} {W : WX} {tg iter c : Expr} {ss : List Stmt} {t : TM} {am : AM} {g : GM} {lg : List Nat} {m : SM} {p pos : Pos}
theorem sim_loop {K : PySem.W.Frag} {gg : TG} {tb : TS} (hg : SimG K ca lg gg g) (hb : SimS K ca W tb m) {J : It} {F : Hp} {r : List Addr} {G : Hp} {σ : L2.St} {H : Hp} {env : Env} {st : Sto} {ds : List D} {D : Ends} (S : SR K ca F r G H st) (E : RE K ca F r σ env) (hy : YieldsA K ca J F r ds)
    (h : PostS K ca W F r G (lpS g m ds env st) D) : ∃ Wn : Nat → Nat → L2.St → Hp → Prop, (∃ m, Wn 0 m σ H) ∧ ∀ i m σ H, Wn i m σ H →
      (J.stop i H ∧ D.nx σ H) ∨ (J.go i H ∧ ∃ N : L2.St → Hp → Prop, (∀ σ' H', N σ' H' → ∃ m', m' < m ∧ Wn (i + 1) m' σ' H') ∧ ∀ x H', J.yld i H x H' → gg x σ H' fun σ2 H2 => tb { D with nx := N, ct := N, bk := D.nx } σ2 H2) := by
  refine ⟨fun i n σ H => ∃ F2 r2 env2 st2, Ex F F2 ∧ r <+: r2 ∧ SR K ca F2 r2 G H st2 ∧ RE K ca F2 r2 σ env2 ∧ n = ds.length - i ∧ i ≤ ds.length ∧ PostS K ca W F2 r2 G (lpS g m (ds.drop i) env2 st2) D, ⟨ds.length, F, r, env, st, Evl.Ex.refl _, List.prefix_refl _, S, E, rfl, Nat.zero_le _, h⟩, ?_⟩
  rintro i n σ2 H2 ⟨F2, r2, env2, st2, e2, p2, S2, E2, rfl, hi, h2⟩
  have y := hy G i F2 r2 H2 st2 e2 p2 S2
  by_cases hlt : i < ds.length
  · obtain ⟨d, hd⟩ : ∃ d, ds[i]? = some d := ⟨ds[i], by simp [hlt]⟩
    obtain ⟨hgo, hyl⟩ := y.1 d hd
    have hdr : ds.drop i = d :: ds.drop (i + 1) := by
      rw [List.drop_eq_getElem_cons hlt]
      have : ds[i] = d := by
        rw [List.getElem?_eq_getElem hlt] at hd
        exact Option.some.inj hd
      rw [this]
    rw [hdr] at h2
    refine .inr ⟨hgo, fun σ' H' => ∃ F3 r3 env3 st3, Ex F F3 ∧ r <+: r3 ∧ SR K ca F3 r3 G H' st3 ∧ RE K ca F3 r3 σ' env3 ∧ PostS K ca W F3 r3 G (lpS g m (ds.drop (i + 1)) env3 st3) D, fun σ' H' hN => ?_, fun x H3 hx => ?_⟩
    · obtain ⟨F3, r3, env3, st3, e3, p3, S3, E3, h3⟩ := hN
      exact ⟨ds.length - (i + 1), by omega, F3, r3, env3, st3, e3, p3, S3, E3, rfl, hlt, h3⟩
    · obtain ⟨F3, e3, S3, rx⟩ := hyl x H3 hx
      replace h2 : PostS K ca W F2 r2 G (match g d env2 with
        | none => .bad
        | some env1 => match m env1 st2 with
          | .nx e s => lpS g m (ds.drop (i + 1)) e s
          | .ct e s => lpS g m (ds.drop (i + 1)) e s
          | .bk e s => .nx e s
          | y => y) D := h2
      cases z : g d env2 with
      | none => rw [z] at h2; exact h2.elim
      | some env1 =>
        rw [z] at h2
        refine hg F3 r2 G σ2 H3 env2 st2 x d env1 _ S3 (E2.mono e3 (List.prefix_refl _)) rx z fun σ4 E4 _ => ?_
        refine hb F3 r2 G σ4 H3 env1 st2 _ S3 E4 ?_
        replace h2 := PostS.mono e3 (List.prefix_refl r2) h2
        have e23 := e2.trans e3
        cases zb : m env1 st2 with
        | nx e s => simp only [zb] at h2; exact fun F' r' H' σ' e' p' S' E' => ⟨F', r', e, s, e23.trans e', p2.trans p', S', E', PostS.mono e' p' h2⟩
        | ct e s => simp only [zb] at h2; exact fun F' r' H' σ' e' p' S' E' => ⟨F', r', e, s, e23.trans e', p2.trans p', S', E', PostS.mono e' p' h2⟩
        | bk e s => simp only [zb] at h2; exact h2
        | rt d s => simp only [zb] at h2; exact h2
        | er x e s => simp only [zb] at h2; exact h2
        | bad => simp only [zb] at h2; exact h2.elim
  · have e : i = ds.length := by omega
    subst e
    refine .inl ⟨y.2 (Nat.le_refl _), ?_⟩
    rw [List.drop_length] at h2
    exact h2 F2 r2 H2 σ2 (Evl.Ex.refl _) (List.prefix_refl _) S2 E2
theorem ms_for (hp : PassesOwn (model X.prog X.w) X.A X.env X.xe) (hc : X.calm = true) (hi : MI X ca W tg iter am) (hg : MG X ca lg tg g) (hb : MSs X ca W ss m) (hs : ∀ x, foldedSetIterable iter X.env x = pure x := by intro _; rfl) : MS X ca W (.For tg iter ss [] pos) (forS am g m) := by
  obtain ⟨wi, i1, i2⟩ := hi
  obtain ⟨gg, g1, g2⟩ := hg
  obtain ⟨tb, b1, b2⟩ := hb
  refine ⟨_, ps_for hp hc i1 g1 b1 hs, fun F r G σ H env st D S E h => ?_⟩
  refine i2 F r G σ H env st _ S E (Post.imp (PostS.ofE E h) fun F1 r1 H1 s1 ds e1 p1 S1 h1 J hJ => ?_)
  exact sim_loop g2 b2 S1 (E.mono e1 p1) hJ h1
theorem ms_while (n : Nat) (hp : PassesOwn (model X.prog X.w) X.A X.env X.xe) (ht : MT X ca W c t) (hb : MSs X ca W ss m) : MS X ca W (.While c ss [] pos) (whileS n t m) := by
  obtain ⟨tc, c1, c2⟩ := ht
  obtain ⟨tb, b1, b2⟩ := hb
  refine ⟨_, ps_while hp c1 b1, fun F r G σ H env st D S E h => ?_⟩
  refine ⟨fun n σ H => ∃ F2 r2 env2 st2, SR X.K ca F2 r2 G H st2 ∧ RE X.K ca F2 r2 σ env2 ∧ PostS X.K ca W F2 r2 G (whS t m n env2 st2) D, ⟨n, F, r, env, st, S, E, h⟩, ?_⟩
  rintro n σ2 H2 ⟨F2, r2, env2, st2, S2, E2, h2⟩
  cases n with
  | zero => exact h2.elim
  | succ n =>
    refine c2 F2 r2 G σ2 H2 env2 st2 _ S2 E2 (Post.imp (PostS.ofE E2 h2) fun F3 r3 H3 s3 b e3 p3 S3 h3 => ?_)
    have E3 := E2.mono e3 p3
    cases b with
    | false => exact h3 F3 r3 H3 σ2 (Evl.Ex.refl _) (List.prefix_refl _) S3 E3
    | true =>
      refine ⟨fun σ' H' => ∃ F2 r2 env2 st2, SR X.K ca F2 r2 G H' st2 ∧ RE X.K ca F2 r2 σ' env2 ∧ PostS X.K ca W F2 r2 G (whS t m n env2 st2) D, fun σ' H' hN => ⟨n, Nat.lt_succ_self _, hN⟩, ?_⟩
      refine b2 F3 r3 G σ2 H3 env2 s3 _ S3 E3 ?_
      replace h3 : PostS X.K ca W F3 r3 G (match m env2 s3 with
        | .nx e s => whS t m n e s
        | .ct e s => whS t m n e s
        | .bk e s => .nx e s
        | y => y) D := h3
      cases zb : m env2 s3 with
      | nx e s => simp only [zb] at h3; exact fun F' r' H' σ' e' p' S' E' => ⟨F', r', e, s, S', E', PostS.mono e' p' h3⟩
      | ct e s => simp only [zb] at h3; exact fun F' r' H' σ' e' p' S' E' => ⟨F', r', e, s, S', E', PostS.mono e' p' h3⟩
      | bk e s => simp only [zb] at h3; exact h3
      | rt d s => simp only [zb] at h3; exact h3
      | er x e s => simp only [zb] at h3; exact h3
      | bad => simp only [zb] at h3; exact h3.elim
end
end MX
set_option maxHeartbeats 1000000
/-! MX, part 8: comprehensions. -/
namespace MX
open PySem L2 PyProof.Rows
def noEr {α : Type} (x : Res α) : Res α := match x with
  | .ok a s => .ok a s
  | _ => .bad
@[simp] theorem noEr_ok {α : Type} (a : α) (s : Sto) : noEr (.ok a s) = .ok a s := rfl
@[simp] theorem noEr_er {α : Type} (e : Exc) (s : Sto) : noEr (.er e s : Res α) = .bad := rfl
@[simp] theorem noEr_bad {α : Type} : noEr (.bad : Res α) = .bad := rfl
abbrev W0 : WX := fun _ _ _ _ => False
def lpL (g : GM) (tt : TM) (te : EM) : List D → Env → List D → Sto → Res (List D)
  | [], _, acc, st => .ok acc st
  | d :: ds, env, acc, st => match g d env with
    | none => .bad
    | some env1 => (noEr (tt env1 st)).bind fun b s => if b = true then (noEr (te env1 s)).bind fun y s2 => if acc.length < LIM then lpL g tt te ds env (acc ++ [y]) s2 else .bad else lpL g tt te ds env acc s
def wipeE : Env → List Nat → Env
  | env, [] => env
  | env, v :: vs => (wipeE env vs).set v none
def lcM (it : AM) (g : GM) (tt : TM) (te : EM) (vs : List Nat) : AM := fun env st => (it env st).bind fun ds s => lpL g tt te ds (wipeE env vs) [] s
def yesM : TM := fun _ st => .ok true st
section
variable {K : PySem.W.Frag} {ca : CA} {W : WX} {σ : L2.St} {F F1 G H : Hp} {r r1 : List Addr} {α β : Type}
theorem Post.bindN {x : Res α} {g : α → Sto → Res β} {P : Hp → List Addr → Hp → Sto → β → Prop} (G2 : Hp) (σ2 : L2.St) (h : Post K ca W σ F r G ((noEr x).bind g) P) : Post K ca W0 σ2 F r G2 x (fun F' r' _ st' a => Post K ca W σ F' r' G (g a st') P) := by
  cases x with
  | ok a st => exact fun F' r' H' e' p' s' => Post.mono e' p' h
  | er x st => exact h.elim
  | bad => exact h
theorem RE.wipe {env : Env} (E : RE K ca F r σ env) : ∀ vs : List Nat, RE K ca F r (L2.wipe σ vs) (wipeE env vs)
  | [] => E
  | v :: vs => (RE.wipe E vs).unset v none
theorem wipe_set_none (σ : L2.St) (v : Nat) (vs : List Nat) (h : v ∈ vs) : (L2.wipe σ vs).set v none = L2.wipe σ vs := by
  induction vs with
  | nil => simp at h
  | cons u us ih =>
    unfold L2.wipe
    by_cases e : v = u
    · subst e; rw [List.set_set]
    · rw [List.set_comm _ _ (Ne.symm e), ih ((List.mem_cons.mp h).resolve_left e)]
theorem wipe_wipe (σ : L2.St) (vs : List Nat) : L2.wipe (L2.wipe σ vs) vs = L2.wipe σ vs := by
  have : ∀ us : List Nat, (∀ v ∈ us, v ∈ vs) → L2.wipe (L2.wipe σ vs) us = L2.wipe σ vs := fun us => by
    induction us with
    | nil => intro _; rfl
    | cons u us ih =>
      intro h
      show (L2.wipe (L2.wipe σ vs) us).set u none = _
      rw [ih fun v hv => h v (List.mem_cons_of_mem _ hv)]
      exact wipe_set_none σ u vs (h u List.mem_cons_self)
  exact this vs fun _ h => h
/-- the list that is being made -/
theorem SR.grow {st : Sto} {p : Addr} {o o' : HO} (S : SR K ca F r (L2.upd G p o) H st) (hg : G p = none) : SR K ca F r (L2.upd G p o') (L2.upd H p o') st := by
  obtain ⟨S1, fr, _⟩ := S.unhold hg
  exact (S1.upd o' fr).hold fr upd_same
theorem sim_lc {wi : TI} {g : TG} {tt : TT} {te : TE} {gm : GM} {tm : TM} {em : EM} {am : AM} {l vs : List Nat} (hi : SimI K ca W wi am) (hg : SimG K ca l g gm) (ht : SimT K ca W0 tt tm) (he : SimE K ca W0 te em) (hl : ∀ i ∈ l, i ∈ vs) : SimL K ca W (tLc wi g tt te vs) (lcM am gm tm em vs) := fun F r G σ H env st Q S E h => by
  refine hi F r G σ H env st _ S E (Post.imp (Post.bind h) fun F1 r1 H1 s1 ds e1 p1 S1 h1 J hJ => ?_)
  have E1 := (E.mono e1 p1).wipe vs
  intro Dl hD
  have hG : G Dl = none := S1.fresh_G hD
  refine ⟨fun i n H => ∃ F2 r2 st2 acc xs, Ex F1 F2 ∧ r1 <+: r2 ∧ SR K ca F2 r2 (L2.upd G Dl (.lst xs)) H st2 ∧ RVs K ca F2 r2 xs acc ∧ n = ds.length - i ∧ i ≤ ds.length ∧
    Post K ca W σ F2 r2 G (lpL gm tm em (ds.drop i) (wipeE env vs) acc st2) (fun F' r' H' _ ds => ∀ p xs, H' p = some (.lst xs) → Free F' r' G p → RVs K ca F' r' xs ds → Q (.ref p) H'),
    ⟨ds.length, F1, r1, s1, [], [], Evl.Ex.refl _, List.prefix_refl _, (S1.upd _ (S1.free hD)).hold (S1.free hD) upd_same, .nil, rfl, Nat.zero_le _, h1⟩, ?_⟩
  rintro i n H2 ⟨F2, r2, st2, acc, xs, e2, p2, S2, qa, rfl, hi2, h2⟩
  have y := hJ (L2.upd G Dl (.lst xs)) i F2 r2 H2 st2 e2 p2 S2
  by_cases hlt : i < ds.length
  · obtain ⟨d, hd⟩ : ∃ d, ds[i]? = some d := ⟨ds[i], by simp [hlt]⟩
    obtain ⟨hgo, hyl⟩ := y.1 d hd
    have hdr : ds.drop i = d :: ds.drop (i + 1) := by
      rw [List.drop_eq_getElem_cons hlt]
      have : ds[i] = d := by
        rw [List.getElem?_eq_getElem hlt] at hd
        exact Option.some.inj hd
      rw [this]
    rw [hdr] at h2
    refine .inr ⟨hgo, fun H' => ∃ F3 r3 st3 acc' xs', Ex F1 F3 ∧ r1 <+: r3 ∧ SR K ca F3 r3 (L2.upd G Dl (.lst xs')) H' st3 ∧ RVs K ca F3 r3 xs' acc' ∧
      Post K ca W σ F3 r3 G (lpL gm tm em (ds.drop (i + 1)) (wipeE env vs) acc' st3) (fun F' r' H' _ ds => ∀ p xs, H' p = some (.lst xs) → Free F' r' G p → RVs K ca F' r' xs ds → Q (.ref p) H'), fun H' hN => ?_, fun x H3 hx => ?_⟩
    · obtain ⟨F3, r3, st3, acc', xs', e3, p3, S3, q3, h3⟩ := hN
      exact ⟨ds.length - (i + 1), by omega, F3, r3, st3, acc', xs', e3, p3, S3, q3, rfl, hlt, h3⟩
    · obtain ⟨F3, e3, S3, rx⟩ := hyl x H3 hx
      cases z : gm d (wipeE env vs) with
      | none =>
        have : lpL gm tm em (d :: ds.drop (i + 1)) (wipeE env vs) acc st2 = .bad := by unfold lpL; rw [z]
        rw [this] at h2; exact h2.elim
      | some env1 =>
        have hl2 : lpL gm tm em (d :: ds.drop (i + 1)) (wipeE env vs) acc st2 = (noEr (tm env1 st2)).bind fun b s => if b = true then (noEr (em env1 s)).bind fun y s2 => if acc.length < LIM then lpL gm tm em (ds.drop (i + 1)) (wipeE env vs) (acc ++ [y]) s2 else .bad else lpL gm tm em (ds.drop (i + 1)) (wipeE env vs) acc s := by
          conv => lhs; unfold lpL
          rw [z]
        rw [hl2] at h2
        have E3 := E1.mono (e2.trans e3) p2
        refine hg F3 r2 _ (L2.wipe σ vs) H3 (wipeE env vs) st2 x d env1 _ S3 E3 rx z fun σ4 E4 w4 => ⟨(w4 vs hl).trans (wipe_wipe σ vs), ?_⟩
        refine ht F3 r2 (L2.upd G Dl (.lst xs)) σ4 H3 env1 st2 _ S3 E4 (Post.imp (Post.bindN _ σ4 (Post.mono e3 (List.prefix_refl _) h2)) fun F5 r5 H5 s5 b e5 p5 S5 h5 => ?_)
        have ea := (e2.trans e3).trans e5
        have pa := p2.trans p5
        cases b with
        | false => exact ⟨F5, r5, s5, acc, xs, ea, pa, S5, qa.mono (e3.trans e5) p5, h5⟩
        | true =>
          refine he F5 r5 (L2.upd G Dl (.lst xs)) σ4 H5 env1 s5 _ S5 (E4.mono e5 p5) (Post.imp (Post.bindN _ σ4 h5) fun F6 r6 H6 s6 w e6 p6 S6 h6 v rv => ?_)
          by_cases c : acc.length < LIM
          · rw [if_pos c] at h6
            have qb := qa.mono ((e3.trans e5).trans e6) (p5.trans p6)
            exact ⟨xs, S6.exG _ _ upd_same, lim_sz1 (by rw [qb.length]; exact c), F6, r6, s6, acc ++ [w], xs ++ [v], ea.trans e6, pa.trans p6, S6.grow hG, qb.append (.cons rv .nil), h6⟩
          · rw [if_neg c] at h6; exact h6.elim
  · have e : i = ds.length := by omega
    subst e
    refine .inl ⟨y.2 (Nat.le_refl _), ?_⟩
    rw [List.drop_length] at h2
    obtain ⟨S3, fr, hd⟩ := S2.unhold hG
    exact h2 F2 r2 H2 (Evl.Ex.refl _) (List.prefix_refl _) S3 Dl xs hd fr qa
/-- the readings that lean on the mirror alone -/
def starE (K : PySem.W.Frag) (ca : CA) (f : EM) : TE := fun σ H Q => ∃ F r G env st, SR K ca F r G H st ∧ RE K ca F r σ env ∧ Post K ca W0 σ F r G (f env st) (WV K ca Q)
def starT (K : PySem.W.Frag) (ca : CA) (f : TM) : TT := fun σ H Q => ∃ F r G env st, SR K ca F r G H st ∧ RE K ca F r σ env ∧ Post K ca W0 σ F r G (f env st) (fun _ _ H' _ b => Q b H')
def starG (K : PySem.W.Frag) (ca : CA) (l : List Nat) (f : GM) : TG := fun v σ H Q => ∃ F r G env st d env', SR K ca F r G H st ∧ RE K ca F r σ env ∧ RV K ca F r v d ∧ f d env = some env' ∧ ∀ σ', RE K ca F r σ' env' → Wp l σ σ' → Q σ' H
theorem sim_starE {f : EM} : SimE K ca W0 (starE K ca f) f := fun F r G σ H env st Q S E h => ⟨F, r, G, env, st, S, E, h⟩
theorem sim_starT {f : TM} : SimT K ca W0 (starT K ca f) f := fun F r G σ H env st Q S E h => ⟨F, r, G, env, st, S, E, h⟩
theorem sim_starG {l : List Nat} {f : GM} : SimG K ca l (starG K ca l f) f := fun F r G σ H env st v d env' Q S E rv h k => ⟨F, r, G, env, st, d, env', S, E, rv, h, k⟩
end
structure MTs (X : Cx) (ca : CA) (W : WX) (ifs : List Expr) (f : TM) : Prop where
  h : ∃ t, PTs X ifs t ∧ SimT X.K ca W t f
section
variable {X : Cx} {ca : CA} {W : WX} {c e elt tg iter : Expr} {es ifs : List Expr} {f em : EM} {t tm : TM} {am g : AM} {gm : GM} {l : List Nat} {pos : Pos}
theorem ME.star (h : ME X ca W0 e f) : PE X e (starE X.K ca f) := by
  obtain ⟨ta, a1, a2⟩ := h
  exact ⟨fun pins s σ H Q I ⟨F, r, G, env, st, S, E, q⟩ => a1.run pins s σ H Q I (a2 F r G σ H env st Q S E q)⟩
theorem MTs.star (h : MTs X ca W0 ifs t) : PTs X ifs (starT X.K ca t) := by
  obtain ⟨ta, a1, a2⟩ := h
  exact ⟨fun pins s σ H Q I ⟨F, r, G, env, st, S, E, q⟩ => a1.run pins s σ H Q I (a2 F r G σ H env st Q S E q)⟩
theorem MG.star (h : MG X ca l tg gm) : PG X tg (starG X.K ca l gm) := by
  obtain ⟨ta, a1, a2⟩ := h
  exact ⟨fun pins s σ H v u Q I rv ⟨F, r, G, env, st, d, env', S, E, rd, z, q⟩ => a1.run pins s σ H v u Q I rv (a2 F r G σ H env st v d env' Q S E rd z q)⟩
theorem mts_nil : MTs X ca W [] yesM := ⟨_, pts_nil, fun F r G σ H env st Q S E h => h F r H (Evl.Ex.refl _) (List.prefix_refl _) S⟩
theorem mts_one (h : MT X ca W c t) : MTs X ca W [c] t := by
  obtain ⟨ta, a1, a2⟩ := h
  exact ⟨_, pts_one a1, a2⟩
variable {scope : Scope} {own : List (Str × Nat)}
theorem ml_lc (hc : X.calm = true) (hN : X.N.Nodup) (hi : MI X ca W tg iter am) (ok : BlkOk X.N X.env.scope scope own)
    (hg : ∀ (s : Shared) (H : Hp) (C : Addr) (cl : List (Str × Addr)) (fp : List Addr), MG (X.blk s H scope (compEnvC scope cl C X.env) fp) ca l tg gm) (ht : ∀ (s : Shared) (H : Hp) (C : Addr) (cl : List (Str × Addr)) (fp : List Addr), MTs (X.blk s H scope (compEnvC scope cl C X.env) fp) ca W0 ifs tm)
    (he : ∀ (s : Shared) (H : Hp) (C : Addr) (cl : List (Str × Addr)) (fp : List Addr), ME (X.blk s H scope (compEnvC scope cl C X.env) fp) ca W0 elt em) (hl : ∀ i ∈ l, i ∈ own.map (·.2)) (hs : ∀ x, foldedSetIterable iter X.env x = pure x := by intro _; rfl) :
    ML X ca W (.ListComp elt [⟨tg, iter, ifs, 0⟩] scope pos) (lcM am gm tm em (own.map (·.2))) := by
  obtain ⟨wi, i1, i2⟩ := hi
  exact ⟨_, pe_lc hc hN i1 ok (fun s H C cl fp => (hg s H C cl fp).star) (fun s H C cl fp => (ht s H C cl fp).star) (fun s H C cl fp => (he s H C cl fp).star) hs, sim_lc i2 sim_starG sim_starT sim_starE hl⟩
theorem simL_frz {K : PySem.W.Frag} {te : TE} (a2 : SimL K ca W te g) : SimE K ca W te (frzM g) := fun F r G σ H env st Q S E h => by
  refine a2 F r G σ H env st _ S E (Post.imp (Post.bind h) fun F1 r1 H1 s1 ds e1 p1 S1 h1 p xs hp fr q => ?_)
  exact h1 (L2.upd F1 p (.lst xs)) r1 H1 (Evl.Ex.new fr.f) (List.prefix_refl _) (S1.freeze fr hp) _ (.lst upd_same (q.mono (Evl.Ex.new fr.f) (List.prefix_refl _)))
theorem simL_own {K : PySem.W.Frag} {te : TE} (a2 : SimL K ca W te g) : SimE K ca W te (ownM g) := fun F r G σ H env st Q S E h => by
  refine a2 F r G σ H env st _ S E (Post.imp (Post.bind h) fun F1 r1 H1 s1 ds e1 p1 S1 h1 p xs hp fr q => ?_)
  refine h1 F1 (r1 ++ [p]) H1 (Evl.Ex.refl _) (List.prefix_append _ _) (S1.owned fr hp ⟨fr.f, xs, rfl, q.mono (Evl.Ex.refl _) (List.prefix_append _ _)⟩) _ (.own ?_)
  rw [List.getElem?_append_right (by rw [S1.len]; exact Nat.le_refl _), S1.len]
  simp
/-- y = [..], y a local name -/
theorem ms_setLc {j : Nat} {y : Str} {py spos : Pos} (hc : X.calm = true) (hN : X.N.Nodup) (hy : X.N[j]? = some y) (hyl : X.env.scope.names.lookup y = some .local)
    (hsw : swapsWith (.ListComp elt [⟨tg, iter, ifs, 0⟩] scope pos) (some (.Name y py)) spos.line X.env = pure true) (hi : MI X ca W tg iter am) (ok : BlkOk X.N X.env.scope scope own)
    (hg : ∀ (s : Shared) (H : Hp) (C : Addr) (cl : List (Str × Addr)) (fp : List Addr), MG (X.blk s H scope (compEnvC scope cl C X.env) fp) ca l tg gm) (ht : ∀ (s : Shared) (H : Hp) (C : Addr) (cl : List (Str × Addr)) (fp : List Addr), MTs (X.blk s H scope (compEnvC scope cl C X.env) fp) ca W0 ifs tm)
    (he : ∀ (s : Shared) (H : Hp) (C : Addr) (cl : List (Str × Addr)) (fp : List Addr), ME (X.blk s H scope (compEnvC scope cl C X.env) fp) ca W0 elt em) (hl : ∀ i ∈ l, i ∈ own.map (·.2)) (hs : ∀ x, foldedSetIterable iter X.env x = pure x := by intro _; rfl) :
    MS X ca W (.Assign [.Name y py] (.ListComp elt [⟨tg, iter, ifs, 0⟩] scope pos) spos) (setS j (frzM (lcM am gm tm em (own.map (·.2))))) := by
  obtain ⟨wi, i1, i2⟩ := hi
  exact ⟨_, ps_setLc hc hN hy hyl hsw i1 ok (fun s H C cl fp => (hg s H C cl fp).star) (fun s H C cl fp => (ht s H C cl fp).star) (fun s H C cl fp => (he s H C cl fp).star) hs, sim_set (simL_frz (sim_lc i2 sim_starG sim_starT sim_starE hl))⟩
theorem ms_setLcO {j : Nat} {y : Str} {py spos : Pos} (hc : X.calm = true) (hN : X.N.Nodup) (hy : X.N[j]? = some y) (hyl : X.env.scope.names.lookup y = some .local)
    (hsw : swapsWith (.ListComp elt [⟨tg, iter, ifs, 0⟩] scope pos) (some (.Name y py)) spos.line X.env = pure true) (hi : MI X ca W tg iter am) (ok : BlkOk X.N X.env.scope scope own)
    (hg : ∀ (s : Shared) (H : Hp) (C : Addr) (cl : List (Str × Addr)) (fp : List Addr), MG (X.blk s H scope (compEnvC scope cl C X.env) fp) ca l tg gm) (ht : ∀ (s : Shared) (H : Hp) (C : Addr) (cl : List (Str × Addr)) (fp : List Addr), MTs (X.blk s H scope (compEnvC scope cl C X.env) fp) ca W0 ifs tm)
    (he : ∀ (s : Shared) (H : Hp) (C : Addr) (cl : List (Str × Addr)) (fp : List Addr), ME (X.blk s H scope (compEnvC scope cl C X.env) fp) ca W0 elt em) (hl : ∀ i ∈ l, i ∈ own.map (·.2)) (hs : ∀ x, foldedSetIterable iter X.env x = pure x := by intro _; rfl) :
    MS X ca W (.Assign [.Name y py] (.ListComp elt [⟨tg, iter, ifs, 0⟩] scope pos) spos) (setS j (ownM (lcM am gm tm em (own.map (·.2))))) := by
  obtain ⟨wi, i1, i2⟩ := hi
  exact ⟨_, ps_setLc hc hN hy hyl hsw i1 ok (fun s H C cl fp => (hg s H C cl fp).star) (fun s H C cl fp => (ht s H C cl fp).star) (fun s H C cl fp => (he s H C cl fp).star) hs, sim_set (simL_own (sim_lc i2 sim_starG sim_starT sim_starE hl))⟩
end
end MX
set_option maxHeartbeats 1000000
/-! MX, part 9: min of pairs of ints, max(.., default=..). -/
namespace MX
open PySem L2 PyProof.Rows PySem.W
/-- the pairs of ints that data is -/
def prsOf : List D → Option (List (Int × Int))
  | [] => some []
  | .tup [.int a, .int b] :: ds => (prsOf ds).map ((a, b) :: ·)
  | _ :: _ => none
def prD (p : Int × Int) : D := .tup [.int p.1, .int p.2]
def prP (p : Int × Int) : PyData := .tuple [.int p.1, .int p.2]
theorem prsOf_map : ∀ ps : List (Int × Int), prsOf (ps.map prD) = some ps
  | [] => rfl
  | (a, b) :: ps => by rw [List.map_cons]; show (prsOf (ps.map prD)).map ((a, b) :: ·) = _; rw [prsOf_map ps]; rfl
theorem prsOf_some : ∀ {ds : List D} {ps : List (Int × Int)}, prsOf ds = some ps → ds = ps.map prD
  | [], ps, h => by cases h; rfl
  | d :: ds, ps, h => by
    unfold prsOf at h
    split at h
    · rename_i e; cases e
    · rename_i a b ds' e
      cases e
      obtain ⟨qs, h1, rfl⟩ := Option.map_eq_some_iff.mp h
      rw [List.map_cons, ← prsOf_some h1]
      rfl
    · cases h
def prLt (p q : Int × Int) : Bool := decide (p.1 < q.1) || (p.1 == q.1 && decide (p.2 < q.2))
def minP (p : Int × Int) (ps : List (Int × Int)) : Int × Int := ps.foldl (fun a y => if prLt y a then y else a) p
theorem dataLt_pr (p q : Int × Int) : dataLt (prP p) (prP q) = prLt p q := by
  obtain ⟨a, b⟩ := p
  obtain ⟨c, d⟩ := q
  have h : dataLt (prP (a, b)) (prP (c, d)) = decide ([a, b] < [c, d]) := (dataLt_tuple _ _).trans (dataLt_ints [a, b] [c, d])
  rw [h]
  unfold prLt
  simp only [List.cons_lt_cons_iff, List.not_lt_nil, and_false, or_false]
  by_cases h1 : a < c <;> by_cases h2 : a = c <;> by_cases h3 : b < d <;> simp [h1, h2, h3]
theorem alike_pr (ps : List (Int × Int)) : AlikeAll (ps.map prP) := by
  refine ⟨fun x hx y hy => ?_, fun x hx e => ?_⟩
  · obtain ⟨p, _, rfl⟩ := List.mem_map.mp hx
    obtain ⟨q, _, rfl⟩ := List.mem_map.mp hy
    rfl
  · obtain ⟨p, _, rfl⟩ := List.mem_map.mp hx
    cases e
theorem depth_pr : ∀ ps : List (Int × Int), PyData.depthAll (ps.map prP) ≤ 1
  | [] => Nat.zero_le _
  | p :: ps => Nat.max_le.mpr ⟨Nat.le_refl _, depth_pr ps⟩
section
variable {K : PySem.W.Frag} {ca : CA} {F G H : Hp} {r : List Addr} {st : Sto}
theorem pr_pl (ps : List (Int × Int)) : plAll (ps.map prD) 63 = true ∧ pyAll (ps.map prD) = ps.map prP := by
  induction ps with
  | nil => exact ⟨rfl, rfl⟩
  | cons p ps ih =>
    rw [List.map_cons, List.map_cons]
    constructor
    · show ((prD p).pl 63 && plAll (ps.map prD) 63) = true
      rw [ih.1]
      rfl
    · show (prD p).py :: pyAll (ps.map prD) = _
      rw [ih.2]
      rfl
theorem prs_dp (e : Ex F H) {ps : List (Int × Int)} {vs : List V} (q : RVs K ca F r vs (ps.map prD)) : DpAll K H vs (ps.map prP) := by
  have := RVs.dp e 63 q (pr_pl ps).1
  rw [(pr_pl ps).2] at this
  exact this
end
theorem vals_at : ∀ {xs : List V} {us : List Value} {i : Nat} {u : Value}, Vals xs us → us[i]? = some u → ∃ x, xs[i]? = some x ∧ RelV x u
  | _, _, _, _, .nil, h => by simp at h
  | _, _, 0, _, .cons h _, e => by simp at e; subst e; exact ⟨_, rfl, h⟩
  | _, _, i + 1, u, .cons _ t, e => by
    obtain ⟨x, h1, h2⟩ := vals_at (i := i) (u := u) t (by simpa using e)
    exact ⟨x, by simpa using h1, h2⟩
/-- min(xs) of data that can be compared: an item that stands where the least one does -/
def rMinD (K : PySem.W.Frag) : List V → Hp → VK → Prop := fun vs H Q => ∃ (a : Addr) (xs : List V) (x : PyData) (ds : List PyData), vs = [V.ref a] ∧ SqL K H a xs ∧ DpAll K H xs (x :: ds) ∧ AlikeAll (x :: ds) ∧ PyData.depthAll (x :: ds) ≤ 32 ∧
  ∀ v, xs[argBest (fun i j => dataLt ((x :: ds).getD i .none) ((x :: ds).getD j .none)) ds.length]? = some v → Q v H
theorem cr_minD {X : Cx} (hc : X.calm = true) (hu : X.A.units + 64 < cLine) : CallR X (.builtin "min") (rMinD X.K) := by
  intro pins s σ H vs us Q I r h
  obtain ⟨a, xs, x, ds, rfl, hs, hd, ha, hp, q⟩ := h
  obtain ⟨its, rv, hl, _⟩ := I.list hs
  rw [Vals.ref1 r]
  obtain ⟨as, hr⟩ := Dp.readsAll I _ _ _ hd rv
  have hh := I.ok.hd hc
  have hr' : ReadsAll s.heap its.toArray.toList (x :: ds) as := hr
  have hn : its.toArray.size = ds.length + 1 := readsAll_len hr'
  refine call_min_walkH (iter_listW (A := X.A.in1) hh hl.isList fun s₂ e W st hfp hw hk => ?_)
  refine ⟨_, _, _, _, _, _, _, s.heap, _, rfl, W, st, hfp, by omega, hw, hk, cmpIn_lt (A := X.A.in1) hr' ha (by show X.A.units + 1 + _ < _; omega), fun v s' hP m => ?_⟩
  obtain ⟨h', tk, rfl, hk'⟩ := moved_old e rfl m
  have e1 : its.toArray.size - 1 = ds.length := by omega
  rw [e1] at hP
  have hP2 : its[argBest (fun i j => dataLt ((x :: ds).getD i .none) ((x :: ds).getD j .none)) ds.length]? = some v := by simpa using hP
  obtain ⟨v0, h1, h2⟩ := vals_at rv hP2
  exact ⟨v0, H, I.kept hk', h2, q v0 h1⟩
def minPD : List D → Sto → Option D := fun ds st => match ds with
  | [d] => (rdL st d).bind fun xs => (prsOf xs).bind fun ps => match ps with
    | p :: ps => some (prD (minP p ps))
    | [] => none
  | _ => none
theorem mc_minP {X : Cx} {ca : CA} (hc : X.calm = true) (hu : X.A.units + 64 < cLine) : MCall X ca (.builtin "min") minPD := ⟨_, cr_minD hc hu, fun F r G H st xs ds z Q S rv hz k => by
  match ds, hz with
  | [d], hz =>
    obtain ⟨x, rfl, rx⟩ := rv.one
    obtain ⟨es, h1, h2⟩ := Option.bind_eq_some_iff.mp (show (rdL st d).bind _ = some z from hz)
    obtain ⟨ps, h3, h4⟩ := Option.bind_eq_some_iff.mp h2
    obtain ⟨a, ys, rfl, h5, q⟩ := rdL_at S rx h1
    obtain rfl := prsOf_some h3
    cases ps with
    | nil => cases h4
    | cons p ps =>
      cases h4
      refine ⟨a, ys, prP p, ps.map prP, rfl, h5, prs_dp S.exF q, alike_pr (p :: ps), Nat.le_trans (depth_pr (p :: ps)) (by decide), fun v hv => ?_⟩
      rw [List.length_map] at hv
      have e1 : (fun i j => dataLt ((prP p :: ps.map prP).getD i .none) ((prP p :: ps.map prP).getD j .none)) = fun i j => dataLt (((p :: ps).map prP).getD i .none) (((p :: ps).map prP).getD j .none) := rfl
      obtain ⟨d, h6, rd⟩ := q.getV hv
      obtain ⟨i1, i2⟩ := argBest_fold dataLt .none (prP p) (ps.map prP) ps.length (by rw [List.length_map]; exact Nat.le_refl _)
      have e3 : List.take ps.length (ps.map prP) = ps.map prP := List.take_of_length_le (by rw [List.length_map]; exact Nat.le_refl _)
      rw [e3] at i2
      have e2 : ∀ (ps : List (Int × Int)) (p : Int × Int), (ps.map prP).foldl (fun a y => if dataLt y a = true then y else a) (prP p) = prP (minP p ps) := by
        intro ps
        induction ps with
        | nil => intro p; rfl
        | cons q ps ih =>
          intro p
          show (ps.map prP).foldl _ (if dataLt (prP q) (prP p) = true then prP q else prP p) = prP (minP (if prLt q p = true then q else p) ps)
          rw [dataLt_pr, ← ih]
          by_cases c : prLt q p = true
          · rw [if_pos c, if_pos c]
          · rw [if_neg c, if_neg c]
      rw [e2] at i2
      have e4 : d = prD (minP p ps) := by
        rw [List.getElem?_map] at h6
        obtain ⟨w, h7, rfl⟩ := Option.map_eq_some_iff.mp h6
        rw [List.getD_eq_getElem?_getD] at i2
        have h8 := congrArg (Option.map prP) h7
        rw [← List.getElem?_map] at h8
        rw [show prP p :: ps.map prP = (p :: ps).map prP from rfl] at i2 h8
        rw [h8] at i2
        have : prP w = prP (minP p ps) := i2
        unfold prP at this
        injection this with this
        injection this with t1 t2
        injection t1 with t1
        injection t2 with t2 _
        injection t2 with t2
        unfold prD
        rw [t1, t2]
      rw [e4] at rd
      exact k F H v (Evl.Ex.refl _) S rd⟩
/-- max(xs, default=d) of ints -/
theorem foldl_max_mem : ∀ (ns : List Int) (n : Int), ns.foldl max n ∈ n :: ns ∧ ∀ y ∈ n :: ns, y ≤ ns.foldl max n
  | [], n => by simp
  | m :: ns, n => by
    obtain ⟨h1, h2⟩ := foldl_max_mem ns (max n m)
    rw [List.foldl_cons]
    refine ⟨?_, fun y hy => ?_⟩
    · rcases List.mem_cons.mp h1 with h | h
      · rw [h]
        rcases Int.le_total n m with c | c
        · rw [Int.max_eq_right c]; simp
        · rw [Int.max_eq_left c]; simp
      · exact List.mem_cons_of_mem _ (List.mem_cons_of_mem _ h)
    · have h3 := h2 (max n m) List.mem_cons_self
      rcases List.mem_cons.mp hy with h | h
      · subst h; exact Int.le_trans (Int.le_max_left _ _) h3
      · rcases List.mem_cons.mp h with h | h
        · subst h; exact Int.le_trans (Int.le_max_right _ _) h3
        · exact h2 y (List.mem_cons_of_mem _ h)
theorem alike_ints (ns : List Int) : AlikeAll (ns.map PyData.int) := by
  refine ⟨fun x hx y hy => ?_, fun x hx e => ?_⟩
  · obtain ⟨p, _, rfl⟩ := List.mem_map.mp hx
    obtain ⟨q, _, rfl⟩ := List.mem_map.mp hy
    rfl
  · obtain ⟨p, _, rfl⟩ := List.mem_map.mp hx
    cases e
theorem depth_ints : ∀ ns : List Int, PyData.depthAll (ns.map PyData.int) ≤ 0
  | [] => Nat.zero_le _
  | p :: ps => Nat.max_le.mpr ⟨Nat.le_refl _, depth_ints ps⟩
theorem dp_ints {K : PySem.W.Frag} {H : Hp} : ∀ ns : List Int, DpAll K H (ns.map V.int) (ns.map PyData.int)
  | [] => .nil
  | n :: ns => .cons (.int n) (dp_ints ns)
def rMaxDf (K : PySem.W.Frag) : List V → List V → Hp → VK → Prop := fun vs zs H Q => ∃ (a : Addr) (ns : List Int) (z : V), vs = [V.ref a] ∧ zs = [z] ∧ SqL K H a (ns.map V.int) ∧ (ns = [] → Q z H) ∧ (ns ≠ [] → Q (.int (maxN ns)) H)
theorem cr_maxDf {X : Cx} (hc : X.calm = true) (hu : X.A.units + 64 < cLine) : CallRK X (.builtin "max") [Str.ofString "default"] (rMaxDf X.K) := by
  intro pins s σ H vs zs us ws Q I r rz h
  obtain ⟨a, ns, z, rfl, rfl, hs, q0, q1⟩ := h
  obtain rfl := Vals.ref1 r
  obtain ⟨w1, rfl, e1⟩ := vals1 rz
  obtain ⟨its, rv, hl, _⟩ := I.list hs
  obtain ⟨as, hr⟩ := Dp.readsAll I _ _ _ (dp_ints ns) rv
  have hr' : ReadsAll s.heap its.toArray.toList (ns.map PyData.int) as := hr
  refine max_list_default (I.ok.hd hc) hl.isList hr' (alike_ints ns) (by have := depth_ints ns; omega) (fun e h' tk hk => ?_) fun y ys i v h' tk bs e hv hrd hk => ?_
  · exact ⟨z, H, I.kept hk, e1, q0 (List.map_eq_nil_iff.mp e)⟩
  · cases ns with
    | nil => cases e
    | cons n ns =>
      cases e
      rw [PySem.W.maxD_ints] at hrd
      cases hrd
      have e2 : maxN (n :: ns) = ns.foldl max n := (max_is (foldl_max_mem ns n).1 (foldl_max_mem ns n).2).symm
      have q2 := q1 (by simp)
      rw [e2] at q2
      exact ⟨.int _, H, I.kept hk, ⟨_, rfl⟩, q2⟩
def maxDfD (z : D) : List D → Sto → Option D := fun ds st => match ds with
  | [d] => (rdL st d).bind fun xs => (intsOf xs).map fun ns => if ns = [] then z else .int (maxN ns)
  | _ => none
def maxDf (k : Int) (am : AM) : EM := fun env st => (am env st).bind fun ds s => Res.of (maxDfD (.int k) ds s) s
theorem me_maxDf {X : Cx} {ca : CA} {W : WX} {e : Expr} {am : AM} {p pos p1 p2 : Pos} {k : Int} {j : Nat} (hc : X.calm = true) (hu : X.A.units + 64 < cLine) (hm : X.mg "max" = none) (ha : MA X ca W [e] am) (hg : Gl X "max" := by rfl) (he0 : backTo pos (starEach [e] X.env) = (false, eval e X.env) :: backTo pos (starEach [] X.env) := by rfl) (hpl : (backTo pos (starEach [e] X.env)).any (·.1) = false := by rfl)
    (hall : (backToKw pos (keywordEach [⟨some "default", .Constant (.int k) j p1, p2⟩] X.env)).all (·.1.isSome) = true := by rfl) (hnone : (backToKw pos (keywordEach [⟨some "default", .Constant (.int k) j p1, p2⟩] X.env)).any (·.1.isNone) = false := by rfl) (hks : (backToKw pos (keywordEach [⟨some "default", .Constant (.int k) j p1, p2⟩] X.env)).filterMap (·.1) = [Str.ofString "default"] := by rfl) :
    ME X ca W (.Call (.Name "max" p) [e] [⟨some "default", .Constant (.int k) j p1, p2⟩] pos) (maxDf k am) := by
  obtain ⟨ta, a1, a2⟩ := ha
  refine ⟨_, pe_callBK (cr_maxDf hc hu) hg hm (by decide +kernel) a1 (pk_cons pe_int pk_nil) (by decide) (by decide) he0 hpl hall hnone hks, fun F r G σ H env st Q S E h => ?_⟩
  refine a2 F r G σ H env st _ S E (Post.imp (Post.bind h) fun F1 r1 H1 s1 ds e1 p1 S1 h1 vs rv => ?_)
  match ds, h1 with
  | [d], h1 =>
    obtain ⟨x, rfl, rx⟩ := rv.one
    cases z1 : rdL s1 d with
    | none =>
      have : maxDfD (.int k) [d] s1 = none := by show (rdL s1 d).bind _ = none; rw [z1]; rfl
      rw [this] at h1; exact h1.elim
    | some es =>
      cases z2 : intsOf es with
      | none =>
        have : maxDfD (.int k) [d] s1 = none := by show (rdL s1 d).bind _ = none; rw [z1]; show (intsOf es).map _ = none; rw [z2]; rfl
        rw [this] at h1; exact h1.elim
      | some ns =>
        have : maxDfD (.int k) [d] s1 = some (if ns = [] then .int k else .int (maxN ns)) := by show (rdL s1 d).bind _ = _; rw [z1]; show (intsOf es).map _ = _; rw [z2]; rfl
        rw [this] at h1
        obtain ⟨a, rfl, h4⟩ := ints_at S1 rx z1 z2
        refine ⟨a, ns, .int k, rfl, rfl, h4, fun e => ?_, fun e => ?_⟩
        · rw [if_pos e] at h1
          exact h1 F1 r1 H1 (Evl.Ex.refl _) (List.prefix_refl _) S1 _ (.int _)
        · rw [if_neg e] at h1
          exact h1 F1 r1 H1 (Evl.Ex.refl _) (List.prefix_refl _) S1 _ (.int _)
end MX
set_option maxHeartbeats 1000000
/-! MX, part 10: what is walked while it may still change; list(range(..)); the parts that a law's walk leans on. -/
namespace MX
open PySem L2 PyProof.Rows PySem.W
/-! ### an owned list, walked: it stays as it is while it is walked -/
def gdP (k : Option Nat) (ds : List D) (st : Sto) : Prop := match k with
  | none => True
  | some k => st[k]? = some (.lst ds)
abbrev ILM := Env → Sto → Res (List D × Option Nat)
def YieldsL (K : PySem.W.Frag) (ca : CA) (J : It) (F : Hp) (r : List Addr) (ds : List D) (k : Option Nat) : Prop := ∀ (G : Hp) (i : Nat) (F2 : Hp) (r2 : List Addr) (H2 : Hp) (st2 : Sto), Ex F F2 → r <+: r2 → SR K ca F2 r2 G H2 st2 → gdP k ds st2 →
  (∀ d, ds[i]? = some d → J.go i H2 ∧ ∀ x H3, J.yld i H2 x H3 → ∃ F3, Ex F2 F3 ∧ SR K ca F3 r2 G H3 st2 ∧ RV K ca F3 r2 x d) ∧ (ds.length ≤ i → J.stop i H2)
def SimIL (K : PySem.W.Frag) (ca : CA) (W : WX) (wi : TI) (f : ILM) : Prop := ∀ F r G σ H env st (R : It → Hp → Prop), SR K ca F r G H st → RE K ca F r σ env →
  Post K ca W σ F r G (f env st) (fun F' r' H' _ q => ∀ J, YieldsL K ca J F' r' q.1 q.2 → R J H') → wi σ H R
structure MIL (X : Cx) (ca : CA) (W : WX) (tg iter : Expr) (f : ILM) : Prop where
  h : ∃ t, PI X tg iter t ∧ SimIL X.K ca W t f
def liveL (d : D) (st : Sto) : Option (List D × Option Nat) := match owL d st with
  | some (k, ds) => some (ds, some k)
  | none => (ldL st d).map fun ds => (ds, none)
def itLL (f : EM) : ILM := fun env st => (f env st).bind fun d s => match liveL d s with
  | some q => .ok q s
  | none => .bad
section
variable {X : Cx} {ca : CA} {W : WX} {tg l : Expr} {f : EM}
theorem y_live {K : PySem.W.Frag} {F G H : Hp} {r : List Addr} {st : Sto} (S : SR K ca F r G H st) {v : V} {k : Nat} {ds : List D} (hr : RV K ca F r v (.own k)) (hk : st[k]? = some (.lst ds)) : ∃ a, v = .ref a ∧ (∃ xs, SqL K H a xs) ∧ YieldsL K ca (Itl K a) F r ds (some k) := by
  obtain ⟨a, rfl, ha⟩ := RV.own_inv hr
  obtain ⟨h0, xs, hx, q⟩ := S.ob k _ a hk ha
  refine ⟨a, rfl, ⟨xs, SqL.of hx⟩, fun G2 i F2 r2 H2 st2 e p S2 g => ?_⟩
  obtain ⟨_, ys, hy, q2⟩ := S2.ob k _ a g (pre_get p ha)
  have h2 : SqL K H2 a ys := SqL.of hy
  refine ⟨fun d hd => ?_, fun hl => ⟨ys, h2, by rw [q2.length]; exact hl⟩⟩
  obtain ⟨w, h3, h4⟩ := q2.get hd
  refine ⟨⟨ys, w, h2, h3⟩, fun x H3 hyl => ?_⟩
  obtain ⟨rfl, hyl⟩ := hyl
  have := hyl ys h2
  rw [h3] at this
  cases this
  exact ⟨F2, Evl.Ex.refl _, S2, h4⟩
theorem mi_live (h : ME X ca W l f) : MIL X ca W tg l (itLL f) := by
  obtain ⟨ta, a1, a2⟩ := h
  refine ⟨_, pi_list a1, fun F r G σ H env st R S E h => ?_⟩
  refine a2 F r G σ H env st _ S E (Post.imp (Post.bind h) fun F1 r1 H1 s1 d e1 p1 S1 h1 v rv => ?_)
  unfold liveL at h1
  cases z : owL d s1 with
  | some q =>
    obtain ⟨k, ds⟩ := q
    rw [z] at h1
    obtain ⟨rfl, hk⟩ := owL_some z
    obtain ⟨a, rfl, ⟨xs, hx⟩, hy⟩ := y_live S1 rv hk
    exact ⟨a, rfl, ⟨xs, hx⟩, h1 F1 r1 H1 (Evl.Ex.refl _) (List.prefix_refl _) S1 _ hy⟩
  | none =>
    rw [z] at h1
    cases z2 : ldL s1 d with
    | none => rw [z2] at h1; exact h1.elim
    | some ds =>
      rw [z2] at h1
      obtain ⟨a, xs, rfl, h3, q⟩ := ldL_at S1 rv z2
      refine ⟨a, rfl, ⟨xs, Evl.ex_l S1.exF h3⟩, h1 F1 r1 H1 (Evl.Ex.refl _) (List.prefix_refl _) S1 _ fun G2 i F2 r2 H2 st2 e p S2 _ => y_list h3 q G2 i F2 r2 H2 st2 e p S2⟩
end
open Classical in
noncomputable def lpSL (k : Option Nat) (all : List D) (g : GM) (body : SM) : List D → Env → Sto → SRes
  | [], env, st => if gdP k all st then .nx env st else .bad
  | d :: ds, env, st => if gdP k all st then (match g d env with
    | none => .bad
    | some env1 => match body env1 st with
      | .nx e s => lpSL k all g body ds e s
      | .ct e s => lpSL k all g body ds e s
      | .bk e s => .nx e s
      | y => y) else .bad
noncomputable def forSL (it : ILM) (g : GM) (body : SM) : SM := fun env st => (it env st).toS env fun q s => lpSL q.2 q.1 g body q.1 env s
open Classical in
noncomputable def lpLL (k : Option Nat) (all : List D) (g : GM) (tt : TM) (te : EM) : List D → Env → List D → Sto → Res (List D)
  | [], _, acc, st => if gdP k all st then .ok acc st else .bad
  | d :: ds, env, acc, st => if gdP k all st then (match g d env with
    | none => .bad
    | some env1 => (noEr (tt env1 st)).bind fun b s => if b = true then (noEr (te env1 s)).bind fun y s2 => if acc.length < LIM then lpLL k all g tt te ds env (acc ++ [y]) s2 else .bad else lpLL k all g tt te ds env acc s) else .bad
noncomputable def lcML (it : ILM) (g : GM) (tt : TM) (te : EM) (vs : List Nat) : AM := fun env st => (it env st).bind fun q s => lpLL q.2 q.1 g tt te q.1 (wipeE env vs) [] s
section
variable {X : Cx} {ca : CA} {W : WX} {tg iter c : Expr} {ss : List Stmt} {t : TM} {am : ILM} {g : GM} {lg : List Nat} {m : SM} {p pos : Pos}
theorem sim_loopL {K : PySem.W.Frag} {gg : TG} {tb : TS} (hg : SimG K ca lg gg g) (hb : SimS K ca W tb m) {J : It} {F : Hp} {r : List Addr} {G : Hp} {σ : L2.St} {H : Hp} {env : Env} {st : Sto} {ds : List D} {kk : Option Nat} {D : Ends} (S : SR K ca F r G H st) (E : RE K ca F r σ env) (hy : YieldsL K ca J F r ds kk)
    (h : PostS K ca W F r G (lpSL kk ds g m ds env st) D) : ∃ Wn : Nat → Nat → L2.St → Hp → Prop, (∃ m, Wn 0 m σ H) ∧ ∀ i m σ H, Wn i m σ H →
      (J.stop i H ∧ D.nx σ H) ∨ (J.go i H ∧ ∃ N : L2.St → Hp → Prop, (∀ σ' H', N σ' H' → ∃ m', m' < m ∧ Wn (i + 1) m' σ' H') ∧ ∀ x H', J.yld i H x H' → gg x σ H' fun σ2 H2 => tb { D with nx := N, ct := N, bk := D.nx } σ2 H2) := by
  refine ⟨fun i n σ H => ∃ F2 r2 env2 st2, Ex F F2 ∧ r <+: r2 ∧ SR K ca F2 r2 G H st2 ∧ RE K ca F2 r2 σ env2 ∧ n = ds.length - i ∧ i ≤ ds.length ∧ PostS K ca W F2 r2 G (lpSL kk ds g m (ds.drop i) env2 st2) D, ⟨ds.length, F, r, env, st, Evl.Ex.refl _, List.prefix_refl _, S, E, rfl, Nat.zero_le _, h⟩, ?_⟩
  rintro i n σ2 H2 ⟨F2, r2, env2, st2, e2, p2, S2, E2, rfl, hi, h2⟩
  have hgd : gdP kk ds st2 := by
    apply Classical.byContradiction
    intro hn
    have : lpSL kk ds g m (ds.drop i) env2 st2 = .bad := by
      cases ds.drop i with
      | nil => exact if_neg hn
      | cons _ _ => exact if_neg hn
    rw [this] at h2
    exact h2.elim
  have y := hy G i F2 r2 H2 st2 e2 p2 S2 hgd
  by_cases hlt : i < ds.length
  · obtain ⟨d, hd⟩ : ∃ d, ds[i]? = some d := ⟨ds[i], by simp [hlt]⟩
    obtain ⟨hgo, hyl⟩ := y.1 d hd
    have hdr : ds.drop i = d :: ds.drop (i + 1) := by
      rw [List.drop_eq_getElem_cons hlt]
      have : ds[i] = d := by
        rw [List.getElem?_eq_getElem hlt] at hd
        exact Option.some.inj hd
      rw [this]
    rw [hdr] at h2
    refine .inr ⟨hgo, fun σ' H' => ∃ F3 r3 env3 st3, Ex F F3 ∧ r <+: r3 ∧ SR K ca F3 r3 G H' st3 ∧ RE K ca F3 r3 σ' env3 ∧ PostS K ca W F3 r3 G (lpSL kk ds g m (ds.drop (i + 1)) env3 st3) D, fun σ' H' hN => ?_, fun x H3 hx => ?_⟩
    · obtain ⟨F3, r3, env3, st3, e3, p3, S3, E3, h3⟩ := hN
      exact ⟨ds.length - (i + 1), by omega, F3, r3, env3, st3, e3, p3, S3, E3, rfl, hlt, h3⟩
    · obtain ⟨F3, e3, S3, rx⟩ := hyl x H3 hx
      have hl2 : lpSL kk ds g m (d :: ds.drop (i + 1)) env2 st2 = (match g d env2 with
        | none => .bad
        | some env1 => match m env1 st2 with
          | .nx e s => lpSL kk ds g m (ds.drop (i + 1)) e s
          | .ct e s => lpSL kk ds g m (ds.drop (i + 1)) e s
          | .bk e s => .nx e s
          | y => y) := if_pos hgd
      rw [hl2] at h2
      replace h2 : PostS K ca W F2 r2 G (match g d env2 with
        | none => .bad
        | some env1 => match m env1 st2 with
          | .nx e s => lpSL kk ds g m (ds.drop (i + 1)) e s
          | .ct e s => lpSL kk ds g m (ds.drop (i + 1)) e s
          | .bk e s => .nx e s
          | y => y) D := h2
      cases z : g d env2 with
      | none => rw [z] at h2; exact h2.elim
      | some env1 =>
        rw [z] at h2
        refine hg F3 r2 G σ2 H3 env2 st2 x d env1 _ S3 (E2.mono e3 (List.prefix_refl _)) rx z fun σ4 E4 _ => ?_
        refine hb F3 r2 G σ4 H3 env1 st2 _ S3 E4 ?_
        replace h2 := PostS.mono e3 (List.prefix_refl r2) h2
        have e23 := e2.trans e3
        cases zb : m env1 st2 with
        | nx e s => simp only [zb] at h2; exact fun F' r' H' σ' e' p' S' E' => ⟨F', r', e, s, e23.trans e', p2.trans p', S', E', PostS.mono e' p' h2⟩
        | ct e s => simp only [zb] at h2; exact fun F' r' H' σ' e' p' S' E' => ⟨F', r', e, s, e23.trans e', p2.trans p', S', E', PostS.mono e' p' h2⟩
        | bk e s => simp only [zb] at h2; exact h2
        | rt d s => simp only [zb] at h2; exact h2
        | er x e s => simp only [zb] at h2; exact h2
        | bad => simp only [zb] at h2; exact h2.elim
  · have e : i = ds.length := by omega
    subst e
    refine .inl ⟨y.2 (Nat.le_refl _), ?_⟩
    rw [List.drop_length, show lpSL kk ds g m [] env2 st2 = .nx env2 st2 from if_pos hgd] at h2
    exact h2 F2 r2 H2 σ2 (Evl.Ex.refl _) (List.prefix_refl _) S2 E2
theorem ms_forL (hp : PassesOwn (model X.prog X.w) X.A X.env X.xe) (hc : X.calm = true) (hi : MIL X ca W tg iter am) (hg : MG X ca lg tg g) (hb : MSs X ca W ss m) (hs : ∀ x, foldedSetIterable iter X.env x = pure x := by intro _; rfl) : MS X ca W (.For tg iter ss [] pos) (forSL am g m) := by
  obtain ⟨wi, i1, i2⟩ := hi
  obtain ⟨gg, g1, g2⟩ := hg
  obtain ⟨tb, b1, b2⟩ := hb
  refine ⟨_, ps_for hp hc i1 g1 b1 hs, fun F r G σ H env st D S E h => ?_⟩
  refine i2 F r G σ H env st _ S E (Post.imp (PostS.ofE E h) fun F1 r1 H1 s1 q e1 p1 S1 h1 J hJ => ?_)
  exact sim_loopL g2 b2 S1 (E.mono e1 p1) hJ h1
end
section
variable {K : PySem.W.Frag} {ca : CA} {W : WX}
theorem sim_lcL {wi : TI} {g : TG} {tt : TT} {te : TE} {gm : GM} {tm : TM} {em : EM} {am : ILM} {l vs : List Nat} (hi : SimIL K ca W wi am) (hg : SimG K ca l g gm) (ht : SimT K ca W0 tt tm) (he : SimE K ca W0 te em) (hl : ∀ i ∈ l, i ∈ vs) : SimL K ca W (tLc wi g tt te vs) (lcML am gm tm em vs) := fun F r G σ H env st Q S E h => by
  refine hi F r G σ H env st _ S E (Post.imp (Post.bind h) fun F1 r1 H1 s1 ⟨ds, kk⟩ e1 p1 S1 h1 J hJ => ?_)
  have E1 := (E.mono e1 p1).wipe vs
  intro Dl hD
  have hG : G Dl = none := S1.fresh_G hD
  refine ⟨fun i n H => ∃ F2 r2 st2 acc xs, Ex F1 F2 ∧ r1 <+: r2 ∧ SR K ca F2 r2 (L2.upd G Dl (.lst xs)) H st2 ∧ RVs K ca F2 r2 xs acc ∧ n = ds.length - i ∧ i ≤ ds.length ∧
    Post K ca W σ F2 r2 G (lpLL kk ds gm tm em (ds.drop i) (wipeE env vs) acc st2) (fun F' r' H' _ ds => ∀ p xs, H' p = some (.lst xs) → Free F' r' G p → RVs K ca F' r' xs ds → Q (.ref p) H'),
    ⟨ds.length, F1, r1, s1, [], [], Evl.Ex.refl _, List.prefix_refl _, (S1.upd _ (S1.free hD)).hold (S1.free hD) upd_same, .nil, rfl, Nat.zero_le _, h1⟩, ?_⟩
  rintro i n H2 ⟨F2, r2, st2, acc, xs, e2, p2, S2, qa, rfl, hi2, h2⟩
  have hgd : gdP kk ds st2 := by
    apply Classical.byContradiction
    intro hn
    have : lpLL kk ds gm tm em (ds.drop i) (wipeE env vs) acc st2 = .bad := by
      cases ds.drop i with
      | nil => exact if_neg hn
      | cons _ _ => exact if_neg hn
    rw [this] at h2
    exact h2.elim
  have y := hJ (L2.upd G Dl (.lst xs)) i F2 r2 H2 st2 e2 p2 S2 hgd
  by_cases hlt : i < ds.length
  · obtain ⟨d, hd⟩ : ∃ d, ds[i]? = some d := ⟨ds[i], by simp [hlt]⟩
    obtain ⟨hgo, hyl⟩ := y.1 d hd
    have hdr : ds.drop i = d :: ds.drop (i + 1) := by
      rw [List.drop_eq_getElem_cons hlt]
      have : ds[i] = d := by
        rw [List.getElem?_eq_getElem hlt] at hd
        exact Option.some.inj hd
      rw [this]
    rw [hdr] at h2
    refine .inr ⟨hgo, fun H' => ∃ F3 r3 st3 acc' xs', Ex F1 F3 ∧ r1 <+: r3 ∧ SR K ca F3 r3 (L2.upd G Dl (.lst xs')) H' st3 ∧ RVs K ca F3 r3 xs' acc' ∧
      Post K ca W σ F3 r3 G (lpLL kk ds gm tm em (ds.drop (i + 1)) (wipeE env vs) acc' st3) (fun F' r' H' _ ds => ∀ p xs, H' p = some (.lst xs) → Free F' r' G p → RVs K ca F' r' xs ds → Q (.ref p) H'), fun H' hN => ?_, fun x H3 hx => ?_⟩
    · obtain ⟨F3, r3, st3, acc', xs', e3, p3, S3, q3, h3⟩ := hN
      exact ⟨ds.length - (i + 1), by omega, F3, r3, st3, acc', xs', e3, p3, S3, q3, rfl, hlt, h3⟩
    · obtain ⟨F3, e3, S3, rx⟩ := hyl x H3 hx
      cases z : gm d (wipeE env vs) with
      | none =>
        have : lpLL kk ds gm tm em (d :: ds.drop (i + 1)) (wipeE env vs) acc st2 = .bad := (if_pos hgd).trans (by rw [z])
        rw [this] at h2; exact h2.elim
      | some env1 =>
        have hl2 : lpLL kk ds gm tm em (d :: ds.drop (i + 1)) (wipeE env vs) acc st2 = (noEr (tm env1 st2)).bind fun b s => if b = true then (noEr (em env1 s)).bind fun y s2 => if acc.length < LIM then lpLL kk ds gm tm em (ds.drop (i + 1)) (wipeE env vs) (acc ++ [y]) s2 else .bad else lpLL kk ds gm tm em (ds.drop (i + 1)) (wipeE env vs) acc s := (if_pos hgd).trans (by rw [z])
        rw [hl2] at h2
        have E3 := E1.mono (e2.trans e3) p2
        refine hg F3 r2 _ (L2.wipe σ vs) H3 (wipeE env vs) st2 x d env1 _ S3 E3 rx z fun σ4 E4 w4 => ⟨(w4 vs hl).trans (wipe_wipe σ vs), ?_⟩
        refine ht F3 r2 (L2.upd G Dl (.lst xs)) σ4 H3 env1 st2 _ S3 E4 (Post.imp (Post.bindN _ σ4 (Post.mono e3 (List.prefix_refl _) h2)) fun F5 r5 H5 s5 b e5 p5 S5 h5 => ?_)
        have ea := (e2.trans e3).trans e5
        have pa := p2.trans p5
        cases b with
        | false => exact ⟨F5, r5, s5, acc, xs, ea, pa, S5, qa.mono (e3.trans e5) p5, h5⟩
        | true =>
          refine he F5 r5 (L2.upd G Dl (.lst xs)) σ4 H5 env1 s5 _ S5 (E4.mono e5 p5) (Post.imp (Post.bindN _ σ4 h5) fun F6 r6 H6 s6 w e6 p6 S6 h6 v rv => ?_)
          by_cases c : acc.length < LIM
          · rw [if_pos c] at h6
            have qb := qa.mono ((e3.trans e5).trans e6) (p5.trans p6)
            exact ⟨xs, S6.exG _ _ upd_same, lim_sz1 (by rw [qb.length]; exact c), F6, r6, s6, acc ++ [w], xs ++ [v], ea.trans e6, pa.trans p6, S6.grow hG, qb.append (.cons rv .nil), h6⟩
          · rw [if_neg c] at h6; exact h6.elim
  · have e : i = ds.length := by omega
    subst e
    refine .inl ⟨y.2 (Nat.le_refl _), ?_⟩
    rw [List.drop_length, show lpLL kk ds gm tm em [] (wipeE env vs) acc st2 = .ok acc st2 from if_pos hgd] at h2
    obtain ⟨S3, fr, hd⟩ := S2.unhold hG
    exact h2 F2 r2 H2 (Evl.Ex.refl _) (List.prefix_refl _) S3 Dl xs hd fr qa
end
section
variable {X : Cx} {ca : CA} {W : WX} {c e elt tg iter : Expr} {es ifs : List Expr} {f em : EM} {t tm : TM} {am : ILM} {gm : GM} {l : List Nat} {pos : Pos}
variable {scope : Scope} {own : List (Str × Nat)}
theorem ml_lcL (hc : X.calm = true) (hN : X.N.Nodup) (hi : MIL X ca W tg iter am) (ok : BlkOk X.N X.env.scope scope own)
    (hg : ∀ (s : Shared) (H : Hp) (C : Addr) (cl : List (Str × Addr)) (fp : List Addr), MG (X.blk s H scope (compEnvC scope cl C X.env) fp) ca l tg gm) (ht : ∀ (s : Shared) (H : Hp) (C : Addr) (cl : List (Str × Addr)) (fp : List Addr), MTs (X.blk s H scope (compEnvC scope cl C X.env) fp) ca W0 ifs tm)
    (he : ∀ (s : Shared) (H : Hp) (C : Addr) (cl : List (Str × Addr)) (fp : List Addr), ME (X.blk s H scope (compEnvC scope cl C X.env) fp) ca W0 elt em) (hl : ∀ i ∈ l, i ∈ own.map (·.2)) (hs : ∀ x, foldedSetIterable iter X.env x = pure x := by intro _; rfl) :
    ML X ca W (.ListComp elt [⟨tg, iter, ifs, 0⟩] scope pos) (lcML am gm tm em (own.map (·.2))) := by
  obtain ⟨wi, i1, i2⟩ := hi
  exact ⟨_, pe_lc hc hN i1 ok (fun s H C cl fp => (hg s H C cl fp).star) (fun s H C cl fp => (ht s H C cl fp).star) (fun s H C cl fp => (he s H C cl fp).star) hs, sim_lcL i2 sim_starG sim_starT sim_starE hl⟩
/-- y = [..], y a local name -/
theorem ms_setLcL {j : Nat} {y : Str} {py spos : Pos} (hc : X.calm = true) (hN : X.N.Nodup) (hy : X.N[j]? = some y) (hyl : X.env.scope.names.lookup y = some .local)
    (hsw : swapsWith (.ListComp elt [⟨tg, iter, ifs, 0⟩] scope pos) (some (.Name y py)) spos.line X.env = pure true) (hi : MIL X ca W tg iter am) (ok : BlkOk X.N X.env.scope scope own)
    (hg : ∀ (s : Shared) (H : Hp) (C : Addr) (cl : List (Str × Addr)) (fp : List Addr), MG (X.blk s H scope (compEnvC scope cl C X.env) fp) ca l tg gm) (ht : ∀ (s : Shared) (H : Hp) (C : Addr) (cl : List (Str × Addr)) (fp : List Addr), MTs (X.blk s H scope (compEnvC scope cl C X.env) fp) ca W0 ifs tm)
    (he : ∀ (s : Shared) (H : Hp) (C : Addr) (cl : List (Str × Addr)) (fp : List Addr), ME (X.blk s H scope (compEnvC scope cl C X.env) fp) ca W0 elt em) (hl : ∀ i ∈ l, i ∈ own.map (·.2)) (hs : ∀ x, foldedSetIterable iter X.env x = pure x := by intro _; rfl) :
    MS X ca W (.Assign [.Name y py] (.ListComp elt [⟨tg, iter, ifs, 0⟩] scope pos) spos) (setS j (frzM (lcML am gm tm em (own.map (·.2))))) := by
  obtain ⟨wi, i1, i2⟩ := hi
  exact ⟨_, ps_setLc hc hN hy hyl hsw i1 ok (fun s H C cl fp => (hg s H C cl fp).star) (fun s H C cl fp => (ht s H C cl fp).star) (fun s H C cl fp => (he s H C cl fp).star) hs, sim_set (simL_frz (sim_lcL i2 sim_starG sim_starT sim_starE hl))⟩
theorem ms_setLcLO {j : Nat} {y : Str} {py spos : Pos} (hc : X.calm = true) (hN : X.N.Nodup) (hy : X.N[j]? = some y) (hyl : X.env.scope.names.lookup y = some .local)
    (hsw : swapsWith (.ListComp elt [⟨tg, iter, ifs, 0⟩] scope pos) (some (.Name y py)) spos.line X.env = pure true) (hi : MIL X ca W tg iter am) (ok : BlkOk X.N X.env.scope scope own)
    (hg : ∀ (s : Shared) (H : Hp) (C : Addr) (cl : List (Str × Addr)) (fp : List Addr), MG (X.blk s H scope (compEnvC scope cl C X.env) fp) ca l tg gm) (ht : ∀ (s : Shared) (H : Hp) (C : Addr) (cl : List (Str × Addr)) (fp : List Addr), MTs (X.blk s H scope (compEnvC scope cl C X.env) fp) ca W0 ifs tm)
    (he : ∀ (s : Shared) (H : Hp) (C : Addr) (cl : List (Str × Addr)) (fp : List Addr), ME (X.blk s H scope (compEnvC scope cl C X.env) fp) ca W0 elt em) (hl : ∀ i ∈ l, i ∈ own.map (·.2)) (hs : ∀ x, foldedSetIterable iter X.env x = pure x := by intro _; rfl) :
    MS X ca W (.Assign [.Name y py] (.ListComp elt [⟨tg, iter, ifs, 0⟩] scope pos) spos) (setS j (ownM (lcML am gm tm em (own.map (·.2))))) := by
  obtain ⟨wi, i1, i2⟩ := hi
  exact ⟨_, ps_setLc hc hN hy hyl hsw i1 ok (fun s H C cl fp => (hg s H C cl fp).star) (fun s H C cl fp => (ht s H C cl fp).star) (fun s H C cl fp => (he s H C cl fp).star) hs, sim_set (simL_own (sim_lcL i2 sim_starG sim_starT sim_starE hl))⟩
end
/-! ### list(range(..)) -/
def lrgOk (i j : Int) : Prop := -(2 ^ 62) ≤ i ∧ i < 2 ^ 62 ∧ -(2 ^ 62) ≤ j ∧ j < 2 ^ 62 ∧ (j - i).toNat ≤ LIM
instance (i j : Int) : Decidable (lrgOk i j) := by unfold lrgOk; infer_instance
def lrgM (f : EM) : AM := fun env st => (f env st).bind fun d s => match d with
  | .int j => if lrgOk 0 j then .ok (rgD 0 j.toNat) s else .bad
  | _ => .bad
def lrg2M (f g : EM) : AM := fun env st => (f env st).bind fun d s => match d with
  | .int i => (g env s).bind fun e s => match e with
    | .int j => if lrgOk i j then .ok (rgD i (j - i).toNat) s else .bad
    | _ => .bad
  | _ => .bad
theorem rg_rvs {K : PySem.W.Frag} {ca : CA} {F : Hp} {r : List Addr} (i j : Int) : RVs K ca F r (rgV i j) (rgD i (j - i).toNat) := by
  unfold rgV rgD
  generalize (j - i).toNat = n
  induction (List.range n) with
  | nil => exact .nil
  | cons x l ih => rw [List.map_cons, List.map_cons]; exact .cons (.int _) ih
section
variable {X : Cx} {ca : CA} {W : WX} {a b : Expr} {f g : EM} {p p2 pos pos2 : Pos}
theorem ml_listRg (hc : X.calm = true) (hm : X.mg "list" = none) (hm2 : X.mg "range" = none) (ha : ME X ca W a f) (hg : Gl X "list" := by rfl) (hg2 : Gl X "range" := by rfl)
    (n1 : starEach [a] X.env = (false, eval a X.env) :: starEach [] X.env := by rfl) (n2 : starEach [Expr.Call (.Name "range" p2) [a] [] pos2] X.env = (false, eval (Expr.Call (.Name "range" p2) [a] [] pos2) X.env) :: starEach [] X.env := by rfl) : ML X ca W (.Call (.Name "list" p) [.Call (.Name "range" p2) [a] [] pos2] [] pos) (lrgM f) := by
  obtain ⟨ta, a1, a2⟩ := ha
  refine ⟨_, pe_listRg hc hg hm (prg_1 hg2 hm2 a1 n1) n2, fun F r G σ H env st Q S E h => ?_⟩
  refine a2 F r G σ H env st _ S E (Post.imp (Post.bind h) fun F1 r1 H1 s1 d e1 p1 S1 h1 v rv => ?_)
  cases rv with
  | int j =>
    by_cases c : lrgOk 0 j
    · have h1' := h1
      simp only [if_pos c] at h1'
      have e0 : rgD 0 j.toNat = rgD 0 (j - 0).toNat := by rw [Int.sub_zero]
      rw [e0] at h1'
      exact ⟨j, rfl, ⟨c.1, c.2.1, c.2.2.1, c.2.2.2.1, Nat.le_trans c.2.2.2.2 (by decide)⟩, fun q hq => h1' F1 r1 _ (Evl.Ex.refl _) (List.prefix_refl _) (S1.upd _ (S1.free hq)) q _ upd_same (S1.free hq) (rg_rvs 0 j)⟩
    · simp only [if_neg c] at h1; exact h1.elim
  | _ => exact h1.elim
theorem ml_listRg2 (hc : X.calm = true) (hm : X.mg "list" = none) (hm2 : X.mg "range" = none) (ha : ME X ca W a f) (hb : ME X ca W b g) (hg : Gl X "list" := by rfl) (hg2 : Gl X "range" := by rfl)
    (n0 : starEach [a, b] X.env = (false, eval a X.env) :: starEach [b] X.env := by rfl) (n1 : starEach [b] X.env = (false, eval b X.env) :: starEach [] X.env := by rfl) (n3 : (backTo pos2 (starEach [b] X.env)).any (·.1) = false := by rfl) (n2 : starEach [Expr.Call (.Name "range" p2) [a, b] [] pos2] X.env = (false, eval (Expr.Call (.Name "range" p2) [a, b] [] pos2) X.env) :: starEach [] X.env := by rfl) : ML X ca W (.Call (.Name "list" p) [.Call (.Name "range" p2) [a, b] [] pos2] [] pos) (lrg2M f g) := by
  obtain ⟨ta, a1, a2⟩ := ha
  obtain ⟨tb, b1, b2⟩ := hb
  refine ⟨_, pe_listRg hc hg hm (prg_2 hg2 hm2 a1 b1 n0 n1 n3) n2, fun F r G σ H env st Q S E h => ?_⟩
  refine a2 F r G σ H env st _ S E (Post.imp (Post.bind h) fun F1 r1 H1 s1 d e1 p1 S1 h1 v rv => ?_)
  cases rv with
  | int i =>
    refine b2 F1 r1 G σ H1 env s1 _ S1 (E.mono e1 p1) (Post.imp (Post.bind h1) fun F2 r2 H2 s2 d2 e2 p2 S2 h2 v2 rv2 => ?_)
    cases rv2 with
    | int j =>
      by_cases c : lrgOk i j
      · have h1' := h2
        simp only [if_pos c] at h1'
        exact ⟨i, j, rfl, rfl, ⟨c.1, c.2.1, c.2.2.1, c.2.2.2.1, Nat.le_trans c.2.2.2.2 (by decide)⟩, fun q hq => h1' F2 r2 _ (Evl.Ex.refl _) (List.prefix_refl _) (S2.upd _ (S2.free hq)) q _ upd_same (S2.free hq) (rg_rvs i j)⟩
      · simp only [if_neg c] at h2; exact h2.elim
    | _ => exact h2.elim
  | non => exact (b2 F1 r1 G σ H1 env s1 _ S1 (E.mono e1 p1) (h1.elim))
  | _ => exact h1.elim
end
/-! ### what a law's walk leans on -/
theorem hu64 {A : Around} {k : Nat} (hr : Room k A) : A.units + 64 < cLine := by have := hr.un; omega
theorem fn_cut {P : Program} {w : World} {K : PySem.W.Frag} {mg : Str → Option Value} {base : Heap} {ca : CA} {k n : Nat} {f : Addr} {fd : FuncData} {ps : List Str} {N : Nat} {b : SM} (F : FnOk P w K mg base CX0 k f fd ps (spM K ca n (fn0 N b))) : FnOk P w K mg base CX0 k f fd ps (spM K ca n (fnC N b)) :=
  F.imp fun vs H Q E h => sp_cut h
theorem blk_mk {N : List Str} {sc scope : Scope} {own : List (Str × Nat)} (h1 : scope.kind = .function := by rfl) (h2 : ∀ y ∈ scope.names, scope.names.lookup y.1 = some y.2 := by decide +kernel) (h3 : ∀ p ∈ own, N[p.2]? = some p.1 := by decide +kernel)
    (h4 : ∀ y ∈ scope.names, y.2 = .free → sc.names.lookup y.1 = some .cell ∨ sc.names.lookup y.1 = some .free := by decide +kernel) (h5 : ∀ y ∈ scope.names, y.2 = .local ∨ y.2 = .cell → y.1 ∈ own.map (·.1) ∨ y.1 ∉ N := by decide +kernel) : BlkOk N sc scope own := ⟨h1, h2, h3, h4, h5⟩
/-- law's promise -/
def spLaw (K : PySem.W.Frag) : Sp := fun vs H Q _ => ∃ (a : Addr) (ns : List Int), vs = [.ref a] ∧ SqL K H a (ns.map V.int) ∧ ns.length ≤ 63 ∧ ∀ H', Q (.bl true) H'
theorem sr0 {K : PySem.W.Frag} {ca : CA} {H : Hp} : SR K ca H [] (fun _ => none) H [] where
  exF := Evl.Ex.refl _
  exG := fun _ _ h => nomatch h
  sep := fun _ _ h => nomatch h
  len := rfl
  nd := List.nodup_nil
  live := fun _ h => absurd h List.not_mem_nil
  ob := fun _ _ _ h _ => by simp at h
/-- what law's mirror must do -/
def LawTrue (m : FM) : Prop := ∀ ns : List Int, ns.length ≤ 63 → ∃ st', m [.scr ns] [] = .ok (.bl true) st'
theorem fn_law {P : Program} {w : World} {K : PySem.W.Frag} {mg : Str → Option Value} {base : Heap} {ca : CA} {k : Nat} {f : Addr} {fd : FuncData} {m : FM} (F : FnOk P w K mg base CX0 k f fd ["script"] (spM K ca 1 m)) (h : LawTrue m) : FnOk P w K mg base CX0 k f fd ["script"] (spLaw K) :=
  F.imp fun vs H Q E ⟨a, ns, e, hs, hl, hq⟩ => by
    obtain ⟨st', e2⟩ := h ns hl
    subst e
    refine ⟨H, [], fun _ => none, [.scr ns], [], sr0, .cons (.scr hs) .nil, rfl, ?_⟩
    rw [e2]
    exact fun F' r' H' _ _ _ v rv => by
      rw [RV.bl_inv rv]
      exact hq H'
theorem walk_law {k : Nat} {l : PySem.W.OpenLaw} {q : Program} {loose : List Str} {XP : (Str → Option Value) → Heap → Prop} {YP : World → Heap → Prop} {d : DefRec} {K : Params → PySem.W.Frag} (hn : l.most = some 63) (hr : Room k callerA) (hdf : d.params.defaults = [])
    (hY : ∀ (w : World) (h : Heap), YP w h → (K w.params).In h)
    (F : ∀ (w : World) (mg : Str → Option Value) (fa : Addr) (h : Heap), (K w.params).In h → h.Ns mainGlobals mg → mg d.name = some (.ref fa) →
      ∃ fd : FuncData, (∀ (s : Shared) (u : Value), BindsTo s fd ⟨[u], []⟩ [("script", u)]) ∧ ∀ base : Heap, (K w.params).In base → base.Ns mainGlobals mg → FnOk l.prog w (K w.params) mg base CX0 k fa fd ["script"] (spLaw (K w.params))) :
    PySem.W.WalkO q loose XP YP l.row.toRowW d [] (fun f vs => PySem.call f vs) :=
  L2.walk_of (n := 63) (k := k) (x := "script") (CX := fun _ => CX0) (sp := fun w => spLaw (K w.params)) hn (by decide) hdf hr hY F (fun _ _ a ns hl _ hS => ⟨a, ns, rfl, hS, hl, fun _ => rfl⟩) fun _ _ _ _ _ z => z
end MX
set_option maxHeartbeats 1000000
/-! MX, part S: how simp runs a mirror: each combinator by stages, no lambda in sight. -/
namespace MX
open PySem L2
def Res.th {α β : Type} (r : Res α) (k : α → Env → Sto → Res β) (env : Env) : Res β := r.bind fun a s => k a env s
@[simp] theorem th_ok {α β : Type} (a : α) (s : Sto) (k : α → Env → Sto → Res β) (env : Env) : (Res.ok a s).th k env = k a env s := Eq.trans rfl rfl
@[simp] theorem th_er {α β : Type} (a : Exc) (s : Sto) (k : α → Env → Sto → Res β) (env : Env) : (Res.er a s : Res α).th k env = .er a s := Eq.trans rfl rfl
def Res.ths {α : Type} (r : Res α) (k : α → Env → Sto → SRes) (env : Env) : SRes := r.toS env fun a s => k a env s
@[simp] theorem ths_ok {α : Type} (a : α) (s : Sto) (k : α → Env → Sto → SRes) (env : Env) : (Res.ok a s).ths k env = k a env s := Eq.trans rfl rfl
@[simp] theorem ths_er {α : Type} (a : Exc) (s : Sto) (k : α → Env → Sto → SRes) (env : Env) : (Res.er a s : Res α).ths k env = .er a env s := Eq.trans rfl rfl
section
variable {f g h : EM} {t u : TM} {a b : AM} {o o2 : OM} {m m2 : SM} {op op2 : Op2} {env : Env} {st : Sto} {d e x : D} {ds es : List D} {i j k c n : Nat} {w : Bool}
/-! names and constants -/
@[simp] theorem vM_ap (hv : env[i]? = some (some d)) : vM i env st = .ok d st := by unfold vM; rw [hv]
@[simp] theorem cM_ap : cM d env st = .ok d st := Eq.trans rfl rfl
/-! operators -/
def opK2 (op : Op2) (d e : D) (s : Sto) : Res D := Res.of (op d e s) s
def opK1 (op : Op2) (d : D) : D → Env → Sto → Res D := fun e _ s => opK2 op d e s
def opK (op : Op2) (g : EM) : D → Env → Sto → Res D := fun d env s => (g env s).th (opK1 op d) env
@[simp] theorem opM_ap : opM op f g env st = (f env st).th (opK op g) env := Eq.trans rfl rfl
@[simp] theorem opK_ap : opK op g d env st = (g env st).th (opK1 op d) env := Eq.trans rfl rfl
@[simp] theorem opK1_ap : opK1 op d e env st = Res.of (op d e st) st := Eq.trans rfl rfl
def unK (m : D → Sto → Option D) : D → Env → Sto → Res D := fun d _ s => Res.of (m d s) s
@[simp] theorem unM_ap {m : D → Sto → Option D} : unM m f env st = (f env st).th (unK m) env := Eq.trans rfl rfl
@[simp] theorem unK_ap {m : D → Sto → Option D} : unK m d env st = Res.of (m d st) st := Eq.trans rfl rfl
@[simp] theorem negI_int (i : Int) : negI (.int i) st = some (.int (-i)) := Eq.trans rfl rfl
def chK2 (op2 : Op2) (h : EM) (e : D) : Option D → Env → Sto → Res D := fun r env s => match r with
  | some (.bl true) => (h env s).th (opK1 op2 e) env
  | some (.bl false) => .ok (.bl false) s
  | _ => .bad
def chK1 (op op2 : Op2) (h : EM) (d : D) : D → Env → Sto → Res D := fun e env s => chK2 op2 h e (op d e s) env s
def chK (op op2 : Op2) (g h : EM) : D → Env → Sto → Res D := fun d env s => (g env s).th (chK1 op op2 h d) env
@[simp] theorem chM_ap : chM op op2 f g h env st = (f env st).th (chK op op2 g h) env := by
  unfold chM Res.th chK
  congr
@[simp] theorem chK_ap : chK op op2 g h d env st = (g env st).th (chK1 op op2 h d) env := Eq.trans rfl rfl
@[simp] theorem chK1_ap : chK1 op op2 h d e env st = chK2 op2 h e (op d e st) env st := Eq.trans rfl rfl
@[simp] theorem chK2_t : chK2 op2 h e (some (.bl true)) env st = (h env st).th (opK1 op2 e) env := Eq.trans rfl rfl
@[simp] theorem chK2_f : chK2 op2 h e (some (.bl false)) env st = .ok (.bl false) st := Eq.trans rfl rfl
/-! tests -/
def blK : D → Env → Sto → Res Bool := fun d _ s => match d with
  | .bl b => .ok b s
  | _ => .bad
@[simp] theorem blM_ap : blM f env st = (f env st).th blK env := Eq.trans rfl rfl
@[simp] theorem blK_ap (b : Bool) : blK (.bl b) env st = .ok b st := Eq.trans rfl rfl
def andK (u : TM) : Bool → Env → Sto → Res Bool := fun b env s => if b = true then u env s else .ok false s
@[simp] theorem andM_ap : andM t u env st = (t env st).th (andK u) env := Eq.trans rfl rfl
@[simp] theorem andK_t : andK u true env st = u env st := Eq.trans rfl rfl
@[simp] theorem andK_f : andK u false env st = .ok false st := Eq.trans rfl rfl
def orK (u : TM) : Bool → Env → Sto → Res Bool := fun b env s => if b = true then .ok true s else u env s
@[simp] theorem orM_ap : orM t u env st = (t env st).th (orK u) env := Eq.trans rfl rfl
@[simp] theorem orK_t : orK u true env st = .ok true st := Eq.trans rfl rfl
@[simp] theorem orK_f : orK u false env st = u env st := Eq.trans rfl rfl
def notK : Bool → Env → Sto → Res Bool := fun b _ s => .ok (!b) s
@[simp] theorem notM_ap : notM t env st = (t env st).th notK env := Eq.trans rfl rfl
@[simp] theorem notK_ap : notK w env st = .ok (!w) st := Eq.trans rfl rfl
@[simp] theorem yesM_ap : yesM env st = .ok true st := Eq.trans rfl rfl
def ifK (f g : EM) : Bool → Env → Sto → Res D := fun b env s => if b = true then f env s else g env s
@[simp] theorem ifM_ap : ifM t f g env st = (t env st).th (ifK f g) env := Eq.trans rfl rfl
@[simp] theorem ifK_t : ifK f g true env st = f env st := Eq.trans rfl rfl
@[simp] theorem ifK_f : ifK f g false env st = g env st := Eq.trans rfl rfl
def andVK (g : EM) : Bool → Env → Sto → Res D := fun b env s => if b = true then g env s else .ok (.bl false) s
@[simp] theorem andV_ap : andV f g env st = (blM f env st).th (andVK g) env := Eq.trans rfl rfl
@[simp] theorem andVK_t : andVK g true env st = g env st := Eq.trans rfl rfl
@[simp] theorem andVK_f : andVK g false env st = .ok (.bl false) st := Eq.trans rfl rfl
def orVK (g : EM) : Bool → Env → Sto → Res D := fun b env s => if b = true then .ok (.bl true) s else g env s
@[simp] theorem orV_ap : orV f g env st = (blM f env st).th (orVK g) env := Eq.trans rfl rfl
@[simp] theorem orVK_t : orVK g true env st = .ok (.bl true) st := Eq.trans rfl rfl
@[simp] theorem orVK_f : orVK g false env st = g env st := Eq.trans rfl rfl
def notVK : Bool → Env → Sto → Res D := fun b _ s => .ok (.bl (!b)) s
@[simp] theorem notV_ap : notV f env st = (blM f env st).th notVK env := Eq.trans rfl rfl
@[simp] theorem notVK_ap : notVK w env st = .ok (.bl (!w)) st := Eq.trans rfl rfl
/-! arguments, displays -/
@[simp] theorem nilA_ap : nilA env st = .ok [] st := Eq.trans rfl rfl
def consK1 (d : D) : List D → Env → Sto → Res (List D) := fun ds _ s => .ok (d :: ds) s
def consK (b : AM) : D → Env → Sto → Res (List D) := fun d env s => (b env s).th (consK1 d) env
@[simp] theorem consA_ap : consA f b env st = (f env st).th (consK b) env := Eq.trans rfl rfl
@[simp] theorem consK_ap : consK b d env st = (b env st).th (consK1 d) env := Eq.trans rfl rfl
@[simp] theorem consK1_ap : consK1 d ds env st = .ok (d :: ds) st := Eq.trans rfl rfl
def tupK : List D → Env → Sto → Res D := fun ds _ s => if ds.length ≤ LIM then .ok (.tup ds) s else .bad
@[simp] theorem tupM_ap : tupM a env st = (a env st).th tupK env := Eq.trans rfl rfl
@[simp] theorem tupK_ap (hl : ds.length ≤ LIM) : tupK ds env st = .ok (.tup ds) st := if_pos hl
def lstK : List D → Env → Sto → Res (List D) := fun ds _ s => if ds.length ≤ LIM then .ok ds s else .bad
@[simp] theorem lstM_ap : lstM a env st = (a env st).th lstK env := Eq.trans rfl rfl
@[simp] theorem lstK_ap (hl : ds.length ≤ LIM) : lstK ds env st = .ok ds st := if_pos hl
def frzK : List D → Env → Sto → Res D := fun ds _ s => .ok (.lst ds) s
@[simp] theorem frzM_ap : frzM a env st = (a env st).th frzK env := Eq.trans rfl rfl
@[simp] theorem frzK_ap : frzK ds env st = .ok (.lst ds) st := Eq.trans rfl rfl
def ownK : List D → Env → Sto → Res D := fun ds _ s => .ok (.own s.length) (s ++ [.lst ds])
@[simp] theorem ownM_ap : ownM a env st = (a env st).th ownK env := Eq.trans rfl rfl
@[simp] theorem ownK_ap : ownK ds env st = .ok (.own st.length) (st ++ [.lst ds]) := Eq.trans rfl rfl
def stillK : D → Env → Sto → Res D := fun d _ s => match d with
  | .own k => match s[k]? with
    | some (.lst ds) => .ok (.lst ds) (s.set k (.fz ds))
    | some (.fz ds) => .ok (.lst ds) s
    | _ => .bad
  | d => .ok d s
@[simp] theorem stillM_ap : stillM f env st = (f env st).th stillK env := Eq.trans rfl rfl
@[simp] theorem stillK_own (hk : st[k]? = some (.lst ds)) : stillK (.own k) env st = .ok (.lst ds) (st.set k (.fz ds)) := by unfold stillK; simp only [hk]
@[simp] theorem stillK_fz (hk : st[k]? = some (.fz ds)) : stillK (.own k) env st = .ok (.lst ds) st := by unfold stillK; simp only [hk]
@[simp] theorem stillK_lst : stillK (.lst ds) env st = .ok (.lst ds) st := Eq.trans rfl rfl
@[simp] theorem stillK_int (i : Int) : stillK (.int i) env st = .ok (.int i) st := Eq.trans rfl rfl
@[simp] theorem stillK_non : stillK .non env st = .ok .non st := Eq.trans rfl rfl
@[simp] theorem stillK_tup : stillK (.tup ds) env st = .ok (.tup ds) st := Eq.trans rfl rfl
@[simp] theorem stillK_str (x : Str) : stillK (.str x) env st = .ok (.str x) st := Eq.trans rfl rfl
@[simp] theorem stillK_obj : stillK (.obj c ds) env st = .ok (.obj c ds) st := Eq.trans rfl rfl
/-! lists from lists -/
def ofK (m : D → D → Sto → Option (List D)) (d : D) : D → Env → Sto → Res (List D) := fun e _ s => Res.ofL (m d e s) s
@[simp] theorem ofK_ap {m : D → D → Sto → Option (List D)} : ofK m d e env st = Res.ofL (m d e st) st := Eq.trans rfl rfl
def catK (g : EM) : D → Env → Sto → Res (List D) := fun d env s => (g env s).th (ofK catL d) env
@[simp] theorem catM_ap : catM f g env st = (f env st).th (catK g) env := Eq.trans rfl rfl
@[simp] theorem catK_ap : catK g d env st = (g env st).th (ofK catL d) env := Eq.trans rfl rfl
def repK (g : EM) : D → Env → Sto → Res (List D) := fun d env s => (g env s).th (ofK repL d) env
@[simp] theorem repM_ap : repM f g env st = (f env st).th (repK g) env := Eq.trans rfl rfl
@[simp] theorem repK_ap : repK g d env st = (g env st).th (ofK repL d) env := Eq.trans rfl rfl
@[simp] theorem noO_ap : noO env st = .ok none st := Eq.trans rfl rfl
def someK : D → Env → Sto → Res (Option Int) := fun d _ s => match d with
  | .int i => .ok (some i) s
  | _ => .bad
@[simp] theorem someO_ap : someO f env st = (f env st).th someK env := Eq.trans rfl rfl
@[simp] theorem someK_ap (i : Int) : someK (.int i) env st = .ok (some i) st := Eq.trans rfl rfl
def slK2 (d : D) (lo : Option Int) : Option Int → Env → Sto → Res (List D) := fun hi _ s => Res.ofL (slL d lo hi s) s
def slK1 (o2 : OM) (d : D) : Option Int → Env → Sto → Res (List D) := fun lo env s => (o2 env s).th (slK2 d lo) env
def slK (o o2 : OM) : D → Env → Sto → Res (List D) := fun d env s => (o env s).th (slK1 o2 d) env
@[simp] theorem slM_ap : slM f o o2 env st = (f env st).th (slK o o2) env := Eq.trans rfl rfl
@[simp] theorem slK_ap : slK o o2 d env st = (o env st).th (slK1 o2 d) env := Eq.trans rfl rfl
@[simp] theorem slK1_ap (lo : Option Int) : slK1 o2 d lo env st = (o2 env st).th (slK2 d lo) env := Eq.trans rfl rfl
@[simp] theorem slK2_ap (lo hi : Option Int) : slK2 d lo hi env st = Res.ofL (slL d lo hi st) st := Eq.trans rfl rfl
def slSK2 (d : D) (lo : Option Int) : Option Int → Env → Sto → Res D := fun hi _ s => Res.of (slS d lo hi) s
def slSK1 (o2 : OM) (d : D) : Option Int → Env → Sto → Res D := fun lo env s => (o2 env s).th (slSK2 d lo) env
def slSK (o o2 : OM) : D → Env → Sto → Res D := fun d env s => (o env s).th (slSK1 o2 d) env
@[simp] theorem slSM_ap : slSM f o o2 env st = (f env st).th (slSK o o2) env := Eq.trans rfl rfl
@[simp] theorem slSK_ap : slSK o o2 d env st = (o env st).th (slSK1 o2 d) env := Eq.trans rfl rfl
@[simp] theorem slSK1_ap (lo : Option Int) : slSK1 o2 d lo env st = (o2 env st).th (slSK2 d lo) env := Eq.trans rfl rfl
@[simp] theorem slSK2_ap (lo hi : Option Int) : slSK2 d lo hi env st = Res.of (slS d lo hi) st := Eq.trans rfl rfl
def revK : D → Env → Sto → Res (List D) := fun d _ s => Res.ofL ((rdL s d).map List.reverse) s
@[simp] theorem revM_ap : revM f env st = (f env st).th revK env := Eq.trans rfl rfl
@[simp] theorem revK_ap : revK d env st = Res.ofL ((rdL st d).map List.reverse) st := Eq.trans rfl rfl
/-! calls of built-ins -/
def callCK (g : List D → Sto → Option D) : List D → Env → Sto → Res D := fun ds _ s => Res.of (g ds s) s
@[simp] theorem callC_ap {g : List D → Sto → Option D} : callC g a env st = (a env st).th (callCK g) env := Eq.trans rfl rfl
@[simp] theorem callCK_ap {g : List D → Sto → Option D} : callCK g ds env st = Res.of (g ds st) st := Eq.trans rfl rfl
def callLK (g : List D → Sto → Option (List D)) : List D → Env → Sto → Res (List D) := fun ds _ s => Res.ofL (g ds s) s
@[simp] theorem callL_ap {g : List D → Sto → Option (List D)} : callL g a env st = (a env st).th (callLK g) env := Eq.trans rfl rfl
@[simp] theorem callLK_ap {g : List D → Sto → Option (List D)} : callLK g ds env st = Res.ofL (g ds st) st := Eq.trans rfl rfl
def sortRK : List D → Env → Sto → Res (List D) := fun ds _ s => Res.ofL ((sortD ds s).map List.reverse) s
@[simp] theorem sortRM_ap : sortRM a env st = (a env st).th sortRK env := Eq.trans rfl rfl
@[simp] theorem sortRK_ap : sortRK ds env st = Res.ofL ((sortD ds st).map List.reverse) st := Eq.trans rfl rfl
def maxDfK (z : Int) : List D → Env → Sto → Res D := fun ds _ s => Res.of (maxDfD (.int z) ds s) s
@[simp] theorem maxDf_ap {z : Int} : maxDf z a env st = (a env st).th (maxDfK z) env := Eq.trans rfl rfl
@[simp] theorem maxDfK_ap {z : Int} : maxDfK z ds env st = Res.of (maxDfD (.int z) ds st) st := Eq.trans rfl rfl
def methK1 (g : D → List D → Sto → Option (D × Sto)) (d : D) : List D → Env → Sto → Res D := fun ds _ s => Res.ofM (g d ds s)
def methK (ty : D → Sto → Bool) (g : D → List D → Sto → Option (D × Sto)) (a : AM) : D → Env → Sto → Res D := fun d env s => if ty d s = true then (a env s).th (methK1 g d) env else .bad
@[simp] theorem methC_ap {ty : D → Sto → Bool} {g : D → List D → Sto → Option (D × Sto)} : methC ty g f a env st = (f env st).th (methK ty g a) env := Eq.trans rfl rfl
@[simp] theorem methK_ap {ty : D → Sto → Bool} {g : D → List D → Sto → Option (D × Sto)} (ht : ty d st = true) : methK ty g a d env st = (a env st).th (methK1 g d) env := if_pos ht
@[simp] theorem methK1_ap {g : D → List D → Sto → Option (D × Sto)} : methK1 g d ds env st = Res.ofM (g d ds st) := Eq.trans rfl rfl
def isiK (cs : List Nat) (c : TY) : D → Env → Sto → Res D := fun d _ s => Res.of (isiD cs c d s) s
@[simp] theorem isiM_ap {cs : List Nat} {c : TY} : isiM cs c f env st = (f env st).th (isiK cs c) env := Eq.trans rfl rfl
@[simp] theorem isiK_ap {cs : List Nat} {c : TY} : isiK cs c d env st = Res.of (isiD cs c d st) st := Eq.trans rfl rfl
def fldK1 (c i : Nat) (s : Sto) : Option (Nat × List D) → Res D := fun q => match q with
  | some (c', ds) => if c' = c then Res.of ds[i]? s else .bad
  | none => .bad
def fldK (c i : Nat) : D → Env → Sto → Res D := fun d _ s => fldK1 c i s (objD d s)
@[simp] theorem fldM_ap : fldM c i f env st = (f env st).th (fldK c i) env := Eq.trans rfl rfl
@[simp] theorem fldK_ap : fldK c i d env st = fldK1 c i st (objD d st) := Eq.trans rfl rfl
@[simp] theorem fldK1_ap : fldK1 c i st (some (c, ds)) = Res.of ds[i]? st := if_pos rfl
/-! calls of defs -/
def callK (m : FM) : List D → Env → Sto → Res D := fun ds _ s => m ds s
variable {F : FM}
@[simp] theorem callM_ap : callM F a env st = (a env st).th (callK F) env := Eq.trans rfl rfl
@[simp] theorem callK_ap : callK F ds env st = F ds st := Eq.trans rfl rfl
def argK (n : Nat) (dd : List D) : List D → Env → Sto → Res (List D) := fun ds _ s => if (ds ++ dd).length = n then .ok (ds ++ dd) s else .bad
@[simp] theorem argM_ap : argM n ds a env st = (a env st).th (argK n ds) env := Eq.trans rfl rfl
@[simp] theorem argK_ap (hl : (es ++ ds).length = n) : argK n ds es env st = .ok (es ++ ds) st := if_pos hl
def mthK1 (m : FM) (d : D) : List D → Env → Sto → Res D := fun ds _ s => m (d :: ds) s
def mthK2 (c : Nat) (m : FM) (a : AM) (d : D) (q : Option (Nat × List D)) : Env → Sto → Res D := fun env s => match q with
  | some (c', _) => if c' = c then (a env s).th (mthK1 m d) env else .bad
  | none => .bad
def mthK (c : Nat) (m : FM) (a : AM) : D → Env → Sto → Res D := fun d env s => mthK2 c m a d (objD d s) env s
@[simp] theorem mthM_ap : mthM c F f a env st = (f env st).th (mthK c F a) env := Eq.trans rfl rfl
@[simp] theorem mthK_ap : mthK c F a d env st = mthK2 c F a d (objD d st) env st := Eq.trans rfl rfl
@[simp] theorem mthK2_ap : mthK2 c F a d (some (c, ds)) env st = (a env st).th (mthK1 F d) env := if_pos rfl
@[simp] theorem mthK1_ap : mthK1 F d ds env st = F (d :: ds) st := Eq.trans rfl rfl
def prpK1 (c : Nat) (m : FM) (d : D) (q : Option (Nat × List D)) (s : Sto) : Res D := match q with
  | some (c', _) => if c' = c then m [d] s else .bad
  | none => .bad
def prpK (c : Nat) (m : FM) : D → Env → Sto → Res D := fun d _ s => prpK1 c m d (objD d s) s
@[simp] theorem prpM_ap : prpM c F f env st = (f env st).th (prpK c F) env := Eq.trans rfl rfl
@[simp] theorem prpK_ap : prpK c F d env st = prpK1 c F d (objD d st) st := Eq.trans rfl rfl
@[simp] theorem prpK1_ap : prpK1 c F d (some (c, ds)) st = F [d] st := if_pos rfl
def lenOK2 : D → Env → Sto → Res D := fun n _ s2 => match n with
  | .int n => if 0 ≤ n ∧ n < 2 ^ 63 then .ok (.int n) s2 else .bad
  | _ => .bad
def lenOK1 (c : Nat) (m : FM) (d : D) (q : Option (Nat × List D)) (env : Env) (s : Sto) : Res D := match q with
  | some (c', _) => if c' = c then (m [d] s).th lenOK2 env else .bad
  | none => .bad
def lenOK (c : Nat) (m : FM) : D → Env → Sto → Res D := fun d env s => lenOK1 c m d (objD d s) env s
@[simp] theorem lenOM_ap : lenOM c F f env st = (f env st).th (lenOK c F) env := Eq.trans rfl rfl
@[simp] theorem lenOK_ap : lenOK c F d env st = lenOK1 c F d (objD d st) env st := Eq.trans rfl rfl
@[simp] theorem lenOK1_ap : lenOK1 c F d (some (c, ds)) env st = (F [d] st).th lenOK2 env := if_pos rfl
@[simp] theorem lenOK2_ap {z : Int} (h0 : 0 ≤ z) (h1 : z < 2 ^ 63) : lenOK2 (.int z) env st = .ok (.int z) st := if_pos ⟨h0, h1⟩
def newK1 (k : Nat) : D → Env → Sto → Res D := fun d _ s2 => match d with
  | .non => .ok (.own k) s2
  | _ => .bad
def newK (c : Nat) (m : FM) : List D → Env → Sto → Res D := fun ds env s => (m (.own s.length :: ds) (s ++ [.obj c []])).th (newK1 s.length) env
@[simp] theorem newM_ap : newM c F a env st = (a env st).th (newK c F) env := Eq.trans rfl rfl
@[simp] theorem newK_ap : newK c F ds env st = (F (.own st.length :: ds) (st ++ [.obj c []])).th (newK1 st.length) env := Eq.trans rfl rfl
@[simp] theorem newK1_ap : newK1 k .non env st = .ok (.own k) st := Eq.trans rfl rfl
noncomputable def nwzK (c : Nat) (m : FM) : List D → Env → Sto → Res D := fun ds env s => nwzM c m (fun _ s => .ok ds s) env s
@[simp] theorem nwzM_ap : nwzM c F a env st = (a env st).th (nwzK c F) env := by
  unfold nwzM Res.th nwzK nwzM
  rfl
/-! statements -/
def SRes.sq (x : SRes) (g : SM) : SRes := x.seq g
@[simp] theorem sq_nx : (SRes.nx env st).sq m = m env st := Eq.trans rfl rfl
@[simp] theorem sq_rt : (SRes.rt d st).sq m = .rt d st := Eq.trans rfl rfl
@[simp] theorem sq_bk : (SRes.bk env st).sq m = .bk env st := Eq.trans rfl rfl
@[simp] theorem sq_ct : (SRes.ct env st).sq m = .ct env st := Eq.trans rfl rfl
@[simp] theorem sq_er (q : Exc) : (SRes.er q env st).sq m = .er q env st := Eq.trans rfl rfl
@[simp] theorem seqS_ap : seqS m m2 env st = (m env st).sq m2 := Eq.trans rfl rfl
@[simp] theorem nxS_ap : nxS env st = .nx env st := Eq.trans rfl rfl
@[simp] theorem brS_ap : brS env st = .bk env st := Eq.trans rfl rfl
@[simp] theorem ctS_ap : ctS env st = .ct env st := Eq.trans rfl rfl
def retK : D → Env → Sto → SRes := fun d _ s => .rt d s
@[simp] theorem retS_ap : retS f env st = (f env st).ths retK env := Eq.trans rfl rfl
@[simp] theorem retK_ap : retK d env st = .rt d st := Eq.trans rfl rfl
@[simp] theorem retN_ap : retN env st = .rt .non st := Eq.trans rfl rfl
def dropK : D → Env → Sto → SRes := fun _ env s => .nx env s
@[simp] theorem dropS_ap : dropS f env st = (f env st).ths dropK env := Eq.trans rfl rfl
@[simp] theorem dropK_ap : dropK d env st = .nx env st := Eq.trans rfl rfl
def setK (i : Nat) : D → Env → Sto → SRes := fun d env s => .nx (env.set i (some d)) s
@[simp] theorem setS_ap : setS i f env st = (f env st).ths (setK i) env := Eq.trans rfl rfl
@[simp] theorem setK_ap : setK i d env st = .nx (env.set i (some d)) st := Eq.trans rfl rfl
def ifSK (m m2 : SM) : Bool → Env → Sto → SRes := fun b env s => if b = true then m env s else m2 env s
@[simp] theorem ifS_ap : ifS t m m2 env st = (t env st).ths (ifSK m m2) env := Eq.trans rfl rfl
@[simp] theorem ifSK_t : ifSK m m2 true env st = m env st := Eq.trans rfl rfl
@[simp] theorem ifSK_f : ifSK m m2 false env st = m2 env st := Eq.trans rfl rfl
def asgK (g : GM) : D → Env → Sto → SRes := fun d env s => match g d env with
  | some env' => .nx env' s
  | none => .bad
def asgK1 (q : Option Env) (s : Sto) : SRes := match q with
  | some env' => .nx env' s
  | none => .bad
variable {q : GM} {qs : List D → Env → Option Env}
@[simp] theorem asgS_ap : asgS f q env st = (f env st).ths (asgK q) env := Eq.trans rfl rfl
@[simp] theorem asgK_ap : asgK q d env st = asgK1 (q d env) st := Eq.trans rfl rfl
@[simp] theorem asgK1_ap : asgK1 (some env) st = .nx env st := Eq.trans rfl rfl
@[simp] theorem nmG_ap : nmG i d env = some (env.set i (some d)) := Eq.trans rfl rfl
@[simp] theorem nilG_ap : nilG [] env = some env := Eq.trans rfl rfl
@[simp] theorem consG_ap : consG q qs (d :: ds) env = (q d env).bind (qs ds) := Eq.trans rfl rfl
@[simp] theorem tupG_ap (hl : ds.length = n) : tupG n qs (.tup ds) env = qs ds env := if_pos hl
def setIxK3 (d : D) (n : Int) (r : Option (Nat × List D)) (env : Env) (s : Sto) : SRes := match r with
  | some (k, ds) => match ixN ds.length n with
    | some j => .nx env (s.set k (.lst (ds.set j d)))
    | none => .bad
  | none => .bad
def setIxK2 (d o : D) : D → Env → Sto → SRes := fun i env s => match i with
  | .int n => setIxK3 d n (owL o s) env s
  | _ => .bad
def setIxK1 (h : EM) (d : D) : D → Env → Sto → SRes := fun o env s => (h env s).ths (setIxK2 d o) env
def setIxK (g h : EM) : D → Env → Sto → SRes := fun d env s => (g env s).ths (setIxK1 h d) env
@[simp] theorem setIxS_ap : setIxS f g h env st = (f env st).ths (setIxK g h) env := by
  unfold setIxS Res.ths setIxK Res.ths setIxK1 Res.ths setIxK2 setIxK3
  rfl
@[simp] theorem setIxK_ap : setIxK g h d env st = (g env st).ths (setIxK1 h d) env := Eq.trans rfl rfl
@[simp] theorem setIxK1_ap : setIxK1 h d e env st = (h env st).ths (setIxK2 d e) env := Eq.trans rfl rfl
@[simp] theorem setIxK2_ap {z : Int} : setIxK2 d e (.int z) env st = setIxK3 d z (owL e st) env st := Eq.trans rfl rfl
@[simp] theorem setIxK3_ap {z : Int} (hj : ixN ds.length z = some j) : setIxK3 d z (some (k, ds)) env st = .nx env (st.set k (.lst (ds.set j d))) := by unfold setIxK3; simp only [hj]
def augIxK4 (o : D) (n : Int) (z : Option D) (env : Env) (s2 : Sto) : SRes := match z with
  | some z => setIxK3 z n (owL o s2) env s2
  | none => .bad
def augIxK3 (m : Op2) (o : D) (n : Int) (x : D) : D → Env → Sto → SRes := fun d env s2 => augIxK4 o n (m x d s2) env s2
def augIxK2b (m : Op2) (f : EM) (o : D) (n : Int) (r : Option D) (env : Env) (s : Sto) : SRes := match r with
  | some x => (f env s).ths (augIxK3 m o n x) env
  | none => .bad
def augIxK2a (m : Op2) (f : EM) (o : D) (n : Int) (r : Option (Nat × List D)) (env : Env) (s : Sto) : SRes := match r with
  | some (_, ds) => augIxK2b m f o n (atI ds n) env s
  | none => .bad
def augIxK2 (m : Op2) (f : EM) (o : D) : D → Env → Sto → SRes := fun i env s => match i with
  | .int n => augIxK2a m f o n (owL o s) env s
  | _ => .bad
def augIxK1 (m : Op2) (h f : EM) : D → Env → Sto → SRes := fun o env s => (h env s).ths (augIxK2 m f o) env
@[simp] theorem augIxS_ap : augIxS op g h f env st = (g env st).ths (augIxK1 op h f) env := by
  unfold augIxS Res.ths augIxK1 Res.ths augIxK2 augIxK2a augIxK2b Res.ths augIxK3 augIxK4 setIxK3
  rfl
@[simp] theorem augIxK1_ap : augIxK1 op h f d env st = (h env st).ths (augIxK2 op f d) env := Eq.trans rfl rfl
@[simp] theorem augIxK2_ap {z : Int} : augIxK2 op f d (.int z) env st = augIxK2a op f d z (owL d st) env st := Eq.trans rfl rfl
@[simp] theorem augIxK2a_ap {z : Int} : augIxK2a op f d z (some (k, ds)) env st = augIxK2b op f d z (atI ds z) env st := Eq.trans rfl rfl
@[simp] theorem augIxK2b_ap {z : Int} : augIxK2b op f d z (some x) env st = (f env st).ths (augIxK3 op d z x) env := Eq.trans rfl rfl
@[simp] theorem augIxK3_ap {z : Int} : augIxK3 op d z x e env st = augIxK4 d z (op x e st) env st := Eq.trans rfl rfl
@[simp] theorem augIxK4_ap {z : Int} : augIxK4 d z (some x) env st = setIxK3 x z (owL d st) env st := Eq.trans rfl rfl
def augK2 (i : Nat) (r : Option D) (env : Env) (s : Sto) : SRes := match r with
  | some z => .nx (env.set i (some z)) s
  | none => .bad
def augK1 (i : Nat) (m : Op2) (x : D) : D → Env → Sto → SRes := fun d env s => augK2 i (m x d s) env s
@[simp] theorem augS_ap (hv : env[i]? = some (some d)) : augS i op f env st = (f env st).ths (augK1 i op d) env := by
  unfold augS; rw [hv]; rfl
@[simp] theorem augK1_ap : augK1 i op d e env st = augK2 i (op d e st) env st := Eq.trans rfl rfl
@[simp] theorem augK2_ap : augK2 i (some d) env st = .nx (env.set i (some d)) st := Eq.trans rfl rfl
def setFldK1 (c i : Nat) (d : D) : D → Env → Sto → SRes := fun o env s => match o with
  | .own k => match s[k]? with
    | some (.obj c' ds) => if c' = c ∧ i ≤ ds.length then .nx env (s.set k (.obj c (putAt ds i d))) else .bad
    | _ => .bad
  | _ => .bad
def setFldK (c i : Nat) (g : EM) : D → Env → Sto → SRes := fun d env s => (g env s).ths (setFldK1 c i d) env
@[simp] theorem setFldS_ap : setFldS c i g f env st = (f env st).ths (setFldK c i g) env := Eq.trans rfl rfl
@[simp] theorem setFldK_ap : setFldK c i g d env st = (g env st).ths (setFldK1 c i d) env := Eq.trans rfl rfl
@[simp] theorem setFldK1_ap (hk : st[k]? = some (.obj c ds)) (hi : i ≤ ds.length) : setFldK1 c i d (.own k) env st = .nx env (st.set k (.obj c (putAt ds i d))) := by
  unfold setFldK1; simp only [hk]; rw [if_pos (And.intro True.intro hi)]
/-! what is walked -/
def itLK : D → Env → Sto → Res (List D) := fun d _ s => Res.ofL (ldL s d) s
@[simp] theorem itL_ap : itL f env st = (f env st).th itLK env := Eq.trans rfl rfl
@[simp] theorem itLK_ap : itLK d env st = Res.ofL (ldL st d) st := Eq.trans rfl rfl
def itTK : D → Env → Sto → Res (List D) := fun d _ s => match d with
  | .tup ds => .ok ds s
  | _ => .bad
@[simp] theorem itT_ap : itT f env st = (f env st).th itTK env := Eq.trans rfl rfl
@[simp] theorem itTK_ap : itTK (.tup ds) env st = .ok ds st := Eq.trans rfl rfl
def itSK : D → Env → Sto → Res (List D) := fun d _ s => match d with
  | .str x => .ok (chD x) s
  | _ => .bad
@[simp] theorem itS_ap : itS f env st = (f env st).th itSK env := Eq.trans rfl rfl
@[simp] theorem itSK_ap (x : Str) : itSK (.str x) env st = .ok (chD x) st := Eq.trans rfl rfl
def rgK : List D → Env → Sto → Res (List D) := fun ds _ s => match ds with
  | [.int j] => if -(2 ^ 62) ≤ j ∧ j < 2 ^ 62 then .ok (rgD 0 j.toNat) s else .bad
  | _ => .bad
@[simp] theorem rgM_ap : rgM a env st = (a env st).th rgK env := Eq.trans rfl rfl
theorem rgK_at {z : Int} (h0 : -(2 ^ 62) ≤ z) (h1 : z < 2 ^ 62) : rgK [.int z] env st = .ok (rgD 0 z.toNat) st := if_pos ⟨h0, h1⟩
def rg2K : List D → Env → Sto → Res (List D) := fun ds _ s => match ds with
  | [.int i, .int j] => if (-(2 ^ 62) ≤ i ∧ i < 2 ^ 62) ∧ -(2 ^ 62) ≤ j ∧ j < 2 ^ 62 then .ok (rgD i (j - i).toNat) s else .bad
  | _ => .bad
@[simp] theorem rg2M_ap : rg2M a env st = (a env st).th rg2K env := Eq.trans rfl rfl
theorem rg2K_at {y z : Int} (h0 : -(2 ^ 62) ≤ y) (h1 : y < 2 ^ 62) (h2 : -(2 ^ 62) ≤ z) (h3 : z < 2 ^ 62) : rg2K [.int y, .int z] env st = .ok (rgD y (z - y).toNat) st := if_pos ⟨⟨h0, h1⟩, h2, h3⟩
def enK : List D → Env → Sto → Res (List D) := fun ds _ s => match ds with
  | [d] => Res.ofL ((ldL s d).map enD) s
  | _ => .bad
@[simp] theorem enM_ap : enM a env st = (a env st).th enK env := Eq.trans rfl rfl
@[simp] theorem enK_ap : enK [d] env st = Res.ofL ((ldL st d).map enD) st := Eq.trans rfl rfl
def zpK : List D → Env → Sto → Res (List D) := fun ds _ s => match ds with
  | [d, e] => Res.ofL ((ldL s d).bind fun xs => (ldL s e).map fun ys => zpD xs ys) s
  | _ => .bad
@[simp] theorem zpM_ap : zpM a env st = (a env st).th zpK env := Eq.trans rfl rfl
@[simp] theorem zpK_ap : zpK [d, e] env st = Res.ofL ((ldL st d).bind fun xs => (ldL st e).map fun ys => zpD xs ys) st := Eq.trans rfl rfl
def lrgK : D → Env → Sto → Res (List D) := fun d _ s => match d with
  | .int j => if lrgOk 0 j then .ok (rgD 0 j.toNat) s else .bad
  | _ => .bad
@[simp] theorem lrgM_ap : lrgM f env st = (f env st).th lrgK env := Eq.trans rfl rfl
theorem lrgK_at {z : Int} (h : lrgOk 0 z) : lrgK (.int z) env st = .ok (rgD 0 z.toNat) st := if_pos h
def itLLK1 (r : Option (List D × Option Nat)) (s : Sto) : Res (List D × Option Nat) := match r with
  | some q => .ok q s
  | none => .bad
def itLLK : D → Env → Sto → Res (List D × Option Nat) := fun d _ s => itLLK1 (liveL d s) s
@[simp] theorem itLL_ap : itLL f env st = (f env st).th itLLK env := Eq.trans rfl rfl
@[simp] theorem itLLK_ap : itLLK d env st = itLLK1 (liveL d st) st := Eq.trans rfl rfl
@[simp] theorem itLLK1_ap {y : List D × Option Nat} : itLLK1 (some y) st = .ok y st := Eq.trans rfl rfl
def forK (g : GM) (body : SM) : List D → Env → Sto → SRes := fun ds env s => lpS g body ds env s
@[simp] theorem forS_ap : forS a q m env st = (a env st).ths (forK q m) env := Eq.trans rfl rfl
@[simp] theorem forK_ap : forK q m ds env st = lpS q m ds env st := Eq.trans rfl rfl
noncomputable def forLK (g : GM) (body : SM) : List D × Option Nat → Env → Sto → SRes := fun r env s => lpSL r.2 r.1 g body r.1 env s
variable {il : ILM}
@[simp] theorem forSL_ap : forSL il q m env st = (il env st).ths (forLK q m) env := Eq.trans rfl rfl
@[simp] theorem forLK_ap {r : List D × Option Nat} : forLK q m r env st = lpSL r.2 r.1 q m r.1 env st := Eq.trans rfl rfl
def lcK (g : GM) (t : TM) (e : EM) (vs : List Nat) : List D → Env → Sto → Res (List D) := fun ds env s => lpL g t e ds (wipeE env vs) [] s
variable {vs : List Nat}
@[simp] theorem lcM_ap : lcM a q t f vs env st = (a env st).th (lcK q t f vs) env := Eq.trans rfl rfl
@[simp] theorem lcK_ap : lcK q t f vs ds env st = lpL q t f ds (wipeE env vs) [] st := Eq.trans rfl rfl
noncomputable def lcLK (g : GM) (t : TM) (e : EM) (vs : List Nat) : List D × Option Nat → Env → Sto → Res (List D) := fun r env s => lpLL r.2 r.1 g t e r.1 (wipeE env vs) [] s
@[simp] theorem lcML_ap : lcML il q t f vs env st = (il env st).th (lcLK q t f vs) env := Eq.trans rfl rfl
@[simp] theorem lcLK_ap {r : List D × Option Nat} : lcLK q t f vs r env st = lpLL r.2 r.1 q t f r.1 (wipeE env vs) [] st := Eq.trans rfl rfl
/-! defs -/
theorem fn0_ap : fn0 n m ds st = (m (envOf n ds) st).ret0 := rfl
theorem fnC_ok {s2 : Sto} (h : (m (envOf n ds) st).ret0 = .ok d s2) (hc : d.clo st.length = true) (ht : tame st s2) : fnC n m ds st = .ok d (s2.take st.length) := by
  unfold fnC fn0 cutR
  rw [h]
  exact if_pos ⟨hc, ht⟩
end
end MX
set_option maxHeartbeats 1000000
/-! MX, part T: operations on data, run by simp; loops. -/
namespace MX
open PySem L2
section
variable {st : Sto} {d e x y z : D} {ds es xs ys : List D} {i j : Int} {k c n : Nat} {ns ms : List Int}
theorem lim_eq : LIM = 100000 := rfl
@[simp] theorem filter_tt {α : Type} (xs : List α) : xs.filter (fun _ => true) = xs := List.filter_eq_self.mpr fun _ _ => rfl
@[simp] theorem le_LIM {n : Nat} (h : n ≤ 100000) : n ≤ LIM := h
@[simp] theorem lt_LIM {n : Nat} (h : n < 100000) : n < LIM := h
/-! reading -/
@[simp] theorem rdM_lst : rdM st (.lst ds) = some ds := Eq.trans rfl rfl
@[simp] theorem rdM_own (h : st[k]? = some (.lst ds)) : rdM st (.own k) = some ds := by unfold rdM; simp only [h]
@[simp] theorem rdM_fz (h : st[k]? = some (.fz ds)) : rdM st (.own k) = some ds := by unfold rdM; simp only [h]
@[simp] theorem rdL_lst : rdL st (.lst ds) = some ds := Eq.trans rfl rfl
@[simp] theorem rdL_scr : rdL st (.scr ns) = some (ns.map .int) := Eq.trans rfl rfl
@[simp] theorem rdL_own (h : st[k]? = some (.lst ds)) : rdL st (.own k) = some ds := rdM_own h
@[simp] theorem rdL_fz (h : st[k]? = some (.fz ds)) : rdL st (.own k) = some ds := rdM_fz h
@[simp] theorem rdQ_lst : rdQ st (.lst ds) = some ds := Eq.trans rfl rfl
@[simp] theorem rdQ_tup : rdQ st (.tup ds) = some ds := Eq.trans rfl rfl
@[simp] theorem rdQ_scr : rdQ st (.scr ns) = some (ns.map .int) := Eq.trans rfl rfl
@[simp] theorem rdQ_own (h : st[k]? = some (.lst ds)) : rdQ st (.own k) = some ds := rdM_own h
@[simp] theorem rdQ_fz (h : st[k]? = some (.fz ds)) : rdQ st (.own k) = some ds := rdM_fz h
@[simp] theorem ldL_lst : ldL st (.lst ds) = some ds := Eq.trans rfl rfl
@[simp] theorem ldL_scr : ldL st (.scr ns) = some (ns.map .int) := Eq.trans rfl rfl
@[simp] theorem ldL_fz (h : st[k]? = some (.fz ds)) : ldL st (.own k) = some ds := by unfold ldL; simp only [h]
@[simp] theorem owL_at' (h : st[k]? = some (.lst ds)) : owL (.own k) st = some (k, ds) := owL_own h
@[simp] theorem owL_lst : owL (.lst ds) st = none := Eq.trans rfl rfl
@[simp] theorem liveL_own (h : st[k]? = some (.lst ds)) : liveL (.own k) st = some (ds, some k) := by unfold liveL; rw [owL_own h]
@[simp] theorem liveL_lst : liveL (.lst ds) st = some (ds, none) := Eq.trans rfl rfl
@[simp] theorem liveL_fz (h : st[k]? = some (.fz ds)) : liveL (.own k) st = some (ds, none) := by
  have : owL (.own k) st = none := by unfold owL; simp only [h]
  unfold liveL; rw [this, ldL_fz h]; rfl
@[simp] theorem objD_obj : objD (.obj c ds) st = some (c, ds) := Eq.trans rfl rfl
@[simp] theorem objD_own (h : st[k]? = some (.obj c ds)) : objD (.own k) st = some (c, ds) := by unfold objD; simp only [h]
@[simp] theorem tyL_lst : tyL (.lst ds) st = true := Eq.trans rfl rfl
@[simp] theorem tyL_own (h : st[k]? = some (.lst ds)) : tyL (.own k) st = true := by unfold tyL; rw [rdL_own h]; rfl
/-! arithmetic -/
@[simp] theorem addD_int : addD (.int i) (.int j) st = some (.int (i + j)) := Eq.trans rfl rfl
@[simp] theorem subI_int : subI (.int i) (.int j) st = some (.int (i - j)) := Eq.trans rfl rfl
@[simp] theorem addI_int : addI (.int i) (.int j) st = some (.int (i + j)) := Eq.trans rfl rfl
@[simp] theorem ltI_int : ltI (.int i) (.int j) st = some (.bl (decide (i < j))) := Eq.trans rfl rfl
@[simp] theorem leI_int : leI (.int i) (.int j) st = some (.bl (decide (i ≤ j))) := Eq.trans rfl rfl
@[simp] theorem gtI_int : gtI (.int i) (.int j) st = some (.bl (decide (j < i))) := Eq.trans rfl rfl
@[simp] theorem geI_int : geI (.int i) (.int j) st = some (.bl (decide (j ≤ i))) := Eq.trans rfl rfl
theorem mulD_int (h : mulOk i j) : mulD (.int i) (.int j) st = some (.int (i * j)) := by
  have : mulI (.int i) (.int j) st = some (.int (i * j)) := if_pos h
  show (mulI _ _ st).or _ = _
  rw [this]; rfl
theorem mulI_int (h : mulOk i j) : mulI (.int i) (.int j) st = some (.int (i * j)) := if_pos h
theorem divI_int (h0 : 0 < j) (h1 : j < 10 ^ 40) : divI (.int i) (.int j) st = some (.int (i / j)) := if_pos ⟨h0, h1⟩
theorem modI_int (h : 0 < j) : modI (.int i) (.int j) st = some (.int (i % j)) := if_pos h
theorem powI_int (h0 : 0 ≤ j) (h1 : j ≤ 1000000) (h2 : i.natAbs < 2 ^ 64) : powI (.int i) (.int j) st = some (.int (i ^ j.toNat)) := if_pos ⟨h0, h1, h2⟩
theorem catL_at' (h1 : rdM st d = some xs) (h2 : rdM st e = some ys) (hl : xs.length + ys.length ≤ LIM) : catL d e st = some (xs ++ ys) := by
  unfold catL; rw [h1, h2]; exact if_pos hl
@[simp] theorem catL_lst (hl : xs.length + ys.length ≤ LIM) : catL (.lst xs) (.lst ys) st = some (xs ++ ys) := if_pos hl
@[simp] theorem addD_lst (hl : xs.length + ys.length ≤ LIM) : addD (.lst xs) (.lst ys) st = some (.lst (xs ++ ys)) := by
  unfold addD orOp
  have h1 : addI (.lst xs) (.lst ys) st = none := rfl
  have h2 : addL (.lst xs) (.lst ys) st = some (.lst (xs ++ ys)) := by unfold addL; rw [catL_lst hl]; rfl
  rw [h1, h2]; rfl
@[simp] theorem repL_one (h0 : 0 ≤ j) (h1 : j ≤ 100000) : repL (.lst [d]) (.int j) st = some (List.replicate j.toNat d) := by
  have : repL (.lst [d]) (.int j) st = if -(2 ^ 62) ≤ j ∧ j ≤ 100000 ∧ [d].length * j.toNat ≤ LIM then some (List.replicate j.toNat [d]).flatten else none := rfl
  rw [this, if_pos ⟨by omega, h1, by simp [LIM]; omega⟩, List.flatten_replicate_singleton]
/-! comparisons -/
@[simp] theorem drf_lst : drf st (.lst ds) = .lst ds := Eq.trans rfl rfl
@[simp] theorem drf_tup : drf st (.tup ds) = .tup ds := Eq.trans rfl rfl
@[simp] theorem drf_int : drf st (.int i) = .int i := Eq.trans rfl rfl
@[simp] theorem drf_bl (b : Bool) : drf st (.bl b) = .bl b := Eq.trans rfl rfl
@[simp] theorem drf_non : drf st .non = .non := Eq.trans rfl rfl
@[simp] theorem drf_str (x : Str) : drf st (.str x) = .str x := Eq.trans rfl rfl
@[simp] theorem drf_ownL (h : st[k]? = some (.lst ds)) : drf st (.own k) = .lst ds := by unfold drf; simp only [h]
@[simp] theorem drf_ownF (h : st[k]? = some (.fz ds)) : drf st (.own k) = .lst ds := by unfold drf; simp only [h]
theorem eqD_at (h1 : (drf st d).pl 64 = true) (h2 : (drf st e).pl 64 = true) : eqD d e st = some (.bl (deq (drf st d) (drf st e))) := if_pos ⟨h1, h2⟩
theorem neD_at (h1 : (drf st d).pl 64 = true) (h2 : (drf st e).pl 64 = true) : neD d e st = some (.bl (!deq (drf st d) (drf st e))) := if_pos ⟨h1, h2⟩
theorem deq_refl (h : d.pl 64 = true) : deq d d = true := SeqAt.eqv_refl _ (pl_lay d 64 h).1
@[simp] theorem eqD_int : eqD (.int i) (.int j) st = some (.bl (i == j)) := eqD_at rfl rfl
@[simp] theorem neD_int : neD (.int i) (.int j) st = some (.bl (!(i == j))) := neD_at rfl rfl
theorem eqD_str {x y : Str} (h1 : PyData.strOk x = true) (h2 : PyData.strOk y = true) : eqD (.str x) (.str y) st = some (.bl (x == y)) := eqD_at h1 h2
theorem neD_str {x y : Str} (h1 : PyData.strOk x = true) (h2 : PyData.strOk y = true) : neD (.str x) (.str y) st = some (.bl (!(x == y))) := neD_at h1 h2
theorem eqD_refl (h1 : (drf st d) = x) (h2 : drf st e = x) (h : x.pl 64 = true) : eqD d e st = some (.bl true) := by
  rw [eqD_at (by rw [h1]; exact h) (by rw [h2]; exact h), h1, h2, deq_refl h]
theorem neD_refl (h1 : (drf st d) = x) (h2 : drf st e = x) (h : x.pl 64 = true) : neD d e st = some (.bl false) := by
  rw [neD_at (by rw [h1]; exact h) (by rw [h2]; exact h), h1, h2, deq_refl h]; rfl
@[simp] theorem eqD_nil (h : plAll ds 63 = true) : eqD (.lst ds) (.lst []) st = some (.bl ds.isEmpty) := by
  rw [eqD_at (d := .lst ds) (e := .lst []) (by rw [drf_lst, D.pl]; exact h) rfl]
  cases ds <;> rfl
@[simp] theorem plAll_nil : plAll [] n = true := Eq.trans rfl rfl
@[simp] theorem plAll_cons : plAll (d :: ds) n = (d.pl n && plAll ds n) := Eq.trans rfl rfl
@[simp] theorem pl_int : (D.int i).pl n = true := by unfold D.pl; rfl
@[simp] theorem pl_non : D.non.pl n = true := by unfold D.pl; rfl
@[simp] theorem pl_bl (b : Bool) : (D.bl b).pl n = true := by unfold D.pl; rfl
@[simp] theorem pl_lst : (D.lst ds).pl (n + 1) = plAll ds n := by rw [D.pl]
@[simp] theorem pl_tup : (D.tup ds).pl (n + 1) = plAll ds n := by rw [D.pl]
theorem plAll_all (h : ∀ d ∈ ds, d.pl n = true) : plAll ds n = true := by
  induction ds with
  | nil => rfl
  | cons d ds ih => rw [plAll_cons, h d List.mem_cons_self, ih fun e he => h e (List.mem_cons_of_mem _ he)]; rfl
@[simp] theorem plAll_ints : plAll (ns.map D.int) n = true := plAll_all fun d hd => by
  obtain ⟨i, _, rfl⟩ := List.mem_map.mp hd
  exact pl_int
theorem plAll_app : plAll (xs ++ ys) n = (plAll xs n && plAll ys n) := by
  induction xs with
  | nil => rfl
  | cons x xs ih => rw [List.cons_append, plAll_cons, ih, plAll_cons, Bool.and_assoc]
@[simp] theorem notN_at : notN d .non st = some (.bl (!isNo d)) := Eq.trans rfl rfl
@[simp] theorem isN_at : isN d .non st = some (.bl (isNo d)) := Eq.trans rfl rfl
@[simp] theorem isNo_non : isNo .non = true := Eq.trans rfl rfl
@[simp] theorem isNo_int : isNo (.int i) = false := Eq.trans rfl rfl
@[simp] theorem isNo_str (x : Str) : isNo (.str x) = false := Eq.trans rfl rfl
@[simp] theorem isNo_lst : isNo (.lst ds) = false := Eq.trans rfl rfl
@[simp] theorem isNo_tup : isNo (.tup ds) = false := Eq.trans rfl rfl
@[simp] theorem isNo_obj : isNo (.obj c ds) = false := Eq.trans rfl rfl
@[simp] theorem isNo_own : isNo (.own k) = false := Eq.trans rfl rfl
/-! types -/
variable {cs : List Nat} {T : TY}
theorem isiD_at {t : TY} (h : tyD st d = some t) (h2 : t.isIn cs = true) : isiD cs T d st = some (.bl (isT t T)) := by unfold isiD; rw [h]; exact if_pos h2
@[simp] theorem isi_int : isiD cs T (.int i) st = some (.bl (isT .int T)) := Eq.trans rfl rfl
@[simp] theorem isi_bl (b : Bool) : isiD cs T (.bl b) st = some (.bl (isT .bl T)) := Eq.trans rfl rfl
@[simp] theorem isi_non : isiD cs T .non st = some (.bl (isT .non T)) := Eq.trans rfl rfl
@[simp] theorem isi_str (x : Str) : isiD cs T (.str x) st = some (.bl (isT .str T)) := Eq.trans rfl rfl
@[simp] theorem isi_lst : isiD cs T (.lst ds) st = some (.bl (isT .lst T)) := Eq.trans rfl rfl
@[simp] theorem isi_tup : isiD cs T (.tup ds) st = some (.bl (isT .tup T)) := Eq.trans rfl rfl
@[simp] theorem isi_obj (h : c ∈ cs) : isiD cs T (.obj c ds) st = some (.bl (isT (.cls c) T)) := isiD_at rfl (decide_eq_true h)
@[simp] theorem isi_own (h : st[k]? = some (.lst ds)) : isiD cs T (.own k) st = some (.bl (isT .lst T)) := isiD_at (t := .lst) (by unfold tyD; simp only [h]) rfl
@[simp] theorem isi_fz (h : st[k]? = some (.fz ds)) : isiD cs T (.own k) st = some (.bl (isT .lst T)) := isiD_at (t := .lst) (by unfold tyD; simp only [h]) rfl
@[simp] theorem isi_ownO (h : st[k]? = some (.obj c ds)) (hc : c ∈ cs) : isiD cs T (.own k) st = some (.bl (isT (.cls c) T)) := isiD_at (t := .cls c) (by unfold tyD; simp only [h]) (decide_eq_true hc)
@[simp] theorem isT_ii : isT .int .int = true := Eq.trans rfl rfl
@[simp] theorem isT_ib : isT .int .bl = false := Eq.trans rfl rfl
@[simp] theorem isT_is : isT .int .str = false := Eq.trans rfl rfl
@[simp] theorem isT_il : isT .int .lst = false := Eq.trans rfl rfl
@[simp] theorem isT_it : isT .int .tup = false := Eq.trans rfl rfl
@[simp] theorem isT_ll : isT .lst .lst = true := Eq.trans rfl rfl
@[simp] theorem isT_tt : isT .tup .tup = true := Eq.trans rfl rfl
@[simp] theorem isT_ss : isT .str .str = true := Eq.trans rfl rfl
@[simp] theorem isT_bb : isT .bl .bl = true := Eq.trans rfl rfl
@[simp] theorem isT_bi : isT .bl .int = true := Eq.trans rfl rfl
@[simp] theorem isT_li : isT .lst .int = false := Eq.trans rfl rfl
@[simp] theorem isT_ti : isT .tup .int = false := Eq.trans rfl rfl
@[simp] theorem isT_si : isT .str .int = false := Eq.trans rfl rfl
@[simp] theorem isT_ni : isT .non .int = false := Eq.trans rfl rfl
@[simp] theorem isT_cc (a b : Nat) : isT (.cls a) (.cls b) = decide (a = b) := by
  show decide (TY.cls a = TY.cls b) = _
  simp
/-! subscripts -/
@[simp] theorem ixD_lst : ixD (.lst ds) (.int i) st = atI ds i := Eq.trans rfl rfl
@[simp] theorem ixD_tup : ixD (.tup ds) (.int i) st = atI ds i := Eq.trans rfl rfl
@[simp] theorem ixD_scr : ixD (.scr ns) (.int i) st = atI (ns.map D.int) i := Eq.trans rfl rfl
@[simp] theorem ixD_own (h : st[k]? = some (.lst ds)) : ixD (.own k) (.int i) st = atI ds i := by
  show (rdQ st (.own k)).bind _ = _
  rw [rdQ_own h]; rfl
@[simp] theorem ixD_fz (h : st[k]? = some (.fz ds)) : ixD (.own k) (.int i) st = atI ds i := by
  show (rdQ st (.own k)).bind _ = _
  rw [rdQ_fz h]; rfl
section
variable {α β : Type} {a b a2 a3 a4 : α} {l : List α}
theorem ixN_nat {n m : Nat} (h : m < n) : ixN n (m : Int) = some m := by
  unfold ixN
  rw [if_pos (by omega), if_pos (by omega), Int.toNat_natCast]
theorem ixN_pos {n : Nat} (h0 : 0 ≤ i) (h : i < n) : ixN n i = some i.toNat := by
  unfold ixN
  rw [if_pos h0, if_pos h]
theorem atI_nat {m : Nat} (h : m < l.length) : atI l (m : Int) = some l[m] := by
  unfold atI
  rw [ixN_nat h]
  exact List.getElem?_eq_getElem h
theorem atI_pos (h0 : 0 ≤ i) (h : i < l.length) : atI l i = l[i.toNat]? := by
  unfold atI
  rw [ixN_pos h0 h]
  rfl
@[simp] theorem atI_0 : atI (a :: l) 0 = some a := atI_nat (m := 0) (by simp)
@[simp] theorem atI_1 : atI (a :: b :: l) 1 = some b := atI_nat (m := 1) (by simp)
@[simp] theorem atI_2 : atI (a :: b :: a2 :: l) 2 = some a2 := atI_nat (m := 2) (by simp)
@[simp] theorem atI_3 : atI (a :: b :: a2 :: a3 :: l) 3 = some a3 := atI_nat (m := 3) (by simp)
@[simp] theorem atI_4 : atI (a :: b :: a2 :: a3 :: a4 :: l) 4 = some a4 := atI_nat (m := 4) (by simp)
@[simp] theorem atI_last : atI (l ++ [a]) (-1) = some a := by
  unfold atI ixN
  rw [if_neg (by decide), if_pos (by simp; omega)]
  show (l ++ [a])[_]? = some a
  have : (-1 + ((l ++ [a]).length : Int)).toNat = l.length := by rw [List.length_append, List.length_singleton]; omega
  rw [this, List.getElem?_append_right (Nat.le_refl _)]
  simp
theorem atI_map (f : α → β) : atI (l.map f) i = (atI l i).map f := by
  unfold atI
  rw [List.length_map]
  cases ixN l.length i with
  | none => rfl
  | some j => exact List.getElem?_map ..
@[simp] theorem ixN_0 (n : Nat) : ixN (n + 1) 0 = some 0 := ixN_nat (m := 0) (Nat.zero_lt_succ _)
@[simp] theorem ixN_1 (n : Nat) : ixN (n + 2) 1 = some 1 := ixN_nat (m := 1) (by omega)
@[simp] theorem ixN_2 (n : Nat) : ixN (n + 3) 2 = some 2 := ixN_nat (m := 2) (by omega)
end
/-! slices -/
@[simp] theorem slL_lst {lo hi : Option Int} : slL (.lst ds) lo hi st = some (cutD ds lo hi) := Eq.trans rfl rfl
@[simp] theorem slL_scr {lo hi : Option Int} : slL (.scr ns) lo hi st = some (cutD (ns.map D.int) lo hi) := Eq.trans rfl rfl
@[simp] theorem slL_own {lo hi : Option Int} (h : st[k]? = some (.lst ds)) : slL (.own k) lo hi st = some (cutD ds lo hi) := by unfold slL; rw [rdL_own h]; rfl
@[simp] theorem slL_fz {lo hi : Option Int} (h : st[k]? = some (.fz ds)) : slL (.own k) lo hi st = some (cutD ds lo hi) := by unfold slL; rw [rdL_fz h]; rfl
theorem cutD_to {m : Nat} : cutD ds none (some (m : Int)) = ds.take m := by
  unfold cutD
  rw [HT.sIx_nat, HT.sIx_none, List.drop_zero, Nat.sub_zero, ← List.take_eq_take_min]
theorem cutD_from {m : Nat} : cutD ds (some (m : Int)) none = ds.drop m := by
  unfold cutD
  rw [HT.sIx_nat, HT.sIx_none]
  by_cases h : m ≤ ds.length
  · rw [Nat.min_eq_left h, List.take_of_length_le (by rw [List.length_drop]; exact Nat.le_refl _)]
  · rw [Nat.min_eq_right (by omega), List.drop_length, List.drop_eq_nil_of_le (by omega)]
    simp
theorem cutD_mid {m p : Nat} (h : p ≤ ds.length) : cutD ds (some (m : Int)) (some (p : Int)) = (ds.drop m).take (p - m) := by
  unfold cutD
  rw [HT.sIx_nat, HT.sIx_nat, Nat.min_eq_left h]
  by_cases h2 : m ≤ ds.length
  · rw [Nat.min_eq_left h2]
  · rw [Nat.min_eq_right (by omega), List.drop_length, List.drop_eq_nil_of_le (by omega)]
    simp
theorem cutD_last : cutD (ds ++ [d]) (some (-1)) none = [d] := by
  unfold cutD
  have : HT.sIx (ds ++ [d]).length 0 (some (-1)) = ds.length := by
    show (if (-1 : Int) < 0 then ((-1 : Int) + ((ds ++ [d]).length : Nat)).toNat else min (-1 : Int).toNat (ds ++ [d]).length) = _
    rw [if_pos (by decide), List.length_append, List.length_singleton]
    omega
  rw [this, HT.sIx_none, List.drop_left]
  simp
/-! built-ins -/
@[simp] theorem lenD_lst : lenD [.lst ds] st = some (.int ds.length) := Eq.trans rfl rfl
@[simp] theorem lenD_tup : lenD [.tup ds] st = some (.int ds.length) := Eq.trans rfl rfl
@[simp] theorem lenD_scr : lenD [.scr ns] st = some (.int ns.length) := by
  show some (D.int ((ns.map D.int).length : Nat)) = _
  rw [List.length_map]
@[simp] theorem lenD_own (h : st[k]? = some (.lst ds)) : lenD [.own k] st = some (.int ds.length) := by
  show (rdQ st (.own k)).map _ = _
  rw [rdQ_own h]; rfl
@[simp] theorem lenD_fz (h : st[k]? = some (.fz ds)) : lenD [.own k] st = some (.int ds.length) := by
  show (rdQ st (.own k)).map _ = _
  rw [rdQ_fz h]; rfl
@[simp] theorem intD_int : intD [.int i] st = some (.int i) := Eq.trans rfl rfl
@[simp] theorem intD_bl (b : Bool) : intD [.bl b] st = some (.int (if b then 1 else 0)) := Eq.trans rfl rfl
@[simp] theorem listD_1 : listD [d] st = rdQ st d := Eq.trans rfl rfl
@[simp] theorem sumD_1 (h : rdL st d = some (ns.map D.int)) : sumD [d] st = some (.int ns.sum) := by
  show (rdL st d).bind _ = _
  rw [h]
  show (intsOf (ns.map D.int)).map _ = _
  rw [intsOf_map]; rfl
@[simp] theorem sumD_lst : sumD [.lst (ns.map D.int)] st = some (.int ns.sum) := sumD_1 rfl
@[simp] theorem sortD_lst : sortD [.lst (ns.map D.int)] st = some ((isort ns).map D.int) := by
  show (intsOf (ns.map D.int)).map _ = _
  rw [intsOf_map]; rfl
theorem minD_2 : minD [.int i, .int j] st = some (.int (if j < i then j else i)) := rfl
theorem maxD_2 : maxD [.int i, .int j] st = some (.int (if j > i then j else i)) := rfl
theorem minD_lst (h : ns ≠ []) : minD [.lst (ns.map D.int)] st = some (.int (minN ns)) := by
  show (intsOf (ns.map D.int)).bind _ = _
  rw [intsOf_map]
  exact if_pos (List.length_pos_iff.mpr h)
theorem maxD_lst (h : ns ≠ []) : maxD [.lst (ns.map D.int)] st = some (.int (maxN ns)) := by
  show (intsOf (ns.map D.int)).bind _ = _
  rw [intsOf_map]
  exact if_pos (List.length_pos_iff.mpr h)
theorem maxDfD_lst : maxDfD z [.lst (ns.map D.int)] st = some (if ns = [] then z else .int (maxN ns)) := by
  show (intsOf (ns.map D.int)).map _ = _
  rw [intsOf_map]; rfl
theorem minPD_lst {p : Int × Int} {ps : List (Int × Int)} : minPD [.lst ((p :: ps).map prD)] st = some (prD (minP p ps)) := by
  show (prsOf ((p :: ps).map prD)).bind _ = _
  rw [prsOf_map]; rfl
/-! methods -/
@[simp] theorem appD_own (h : st[k]? = some (.lst ds)) (hl : ds.length < LIM) : appD (.own k) [d] st = some (.non, st.set k (.lst (ds ++ [d]))) := by
  show (owL (.own k) st).bind _ = _
  rw [owL_own h]; exact if_pos hl
@[simp] theorem extD_own (h : st[k]? = some (.lst ds)) (h2 : rdM st e = some xs) (hl : ds.length + xs.length ≤ LIM) : extD (.own k) [e] st = some (.non, st.set k (.lst (ds ++ xs))) := by
  show (owL (.own k) st).bind _ = _
  rw [owL_own h]
  show (rdM st e).bind _ = _
  rw [h2]; exact if_pos hl
@[simp] theorem rvsD_own (h : st[k]? = some (.lst ds)) : rvsD (.own k) [] st = some (.non, st.set k (.lst ds.reverse)) := by
  show (owL (.own k) st).map _ = _
  rw [owL_own h]; rfl
@[simp] theorem popD_own (h : st[k]? = some (.lst (ds ++ [d]))) : popD (.own k) [] st = some (d, st.set k (.lst ds)) := by
  show (owL (.own k) st).bind _ = _
  rw [owL_own h]
  show ((ds ++ [d])[(ds ++ [d]).length - 1]?).map _ = _
  simp
end
/-! ### loops -/
section
variable {α : Type} {g : GM} {m : SM} {tt : TM} {te : EM} {env : Env} {st : Sto} {d : D} {ds all acc : List D} {kk : Option Nat}
@[simp] theorem lpS_nil : lpS g m [] env st = .nx env st := Eq.trans rfl rfl
def lpK (g : GM) (m : SM) (ds : List D) (x : SRes) : SRes := match x with
  | .nx e s => lpS g m ds e s
  | .ct e s => lpS g m ds e s
  | .bk e s => .nx e s
  | y => y
theorem lpS_cons {env1 : Env} (h : g d env = some env1) : lpS g m (d :: ds) env st = lpK g m ds (m env1 st) := by
  have : lpS g m (d :: ds) env st = (match g d env with
    | none => .bad
    | some env1 => match m env1 st with
      | .nx e s => lpS g m ds e s
      | .ct e s => lpS g m ds e s
      | .bk e s => .nx e s
      | y => y) := rfl
  rw [this, h]; rfl
theorem lpSL_cons (hg : gdP kk all st) {env1 : Env} (h : g d env = some env1) : lpSL kk all g m (d :: ds) env st = (match m env1 st with
      | .nx e s => lpSL kk all g m ds e s
      | .ct e s => lpSL kk all g m ds e s
      | .bk e s => .nx e s
      | y => y) := (if_pos hg).trans (by rw [h] <;> rfl)
theorem lpSL_nil (hg : gdP kk all st) : lpSL kk all g m [] env st = .nx env st := if_pos hg
/-- a loop that runs through, by an invariant -/
theorem lpS_inv (c : α → D) (I : Nat → Env → Sto → Prop) : ∀ (xs : List α) (i : Nat) (env : Env) (st : Sto), I i env st →
    (∀ (j : Nat) (x : α) (env : Env) (st : Sto), xs[j]? = some x → I (i + j) env st → ∃ env1, g (c x) env = some env1 ∧ ∃ e s, (m env1 st = .nx e s ∨ m env1 st = .ct e s) ∧ I (i + j + 1) e s) →
    ∃ e s, lpS g m (xs.map c) env st = .nx e s ∧ I (i + xs.length) e s
  | [], i, env, st, h0, _ => ⟨env, st, rfl, h0⟩
  | x :: xs, i, env, st, h0, h => by
    obtain ⟨env1, h1, e, s, h2, h3⟩ := h 0 x env st rfl h0
    obtain ⟨e', s', h4, h5⟩ := lpS_inv c I xs (i + 1) e s h3 fun j y en stt hy hI => by
      have := h (j + 1) y en stt (by simpa using hy) (by rw [show i + (j + 1) = i + 1 + j by omega]; exact hI)
      rw [show i + (j + 1) + 1 = i + 1 + j + 1 by omega] at this
      exact this
    refine ⟨e', s', ?_, by rw [List.length_cons, show i + (xs.length + 1) = i + 1 + xs.length by omega]; exact h5⟩
    rw [List.map_cons, lpS_cons h1]
    rcases h2 with h2 | h2 <;> (rw [h2]; exact h4)
/-- the same with an owned list that is walked -/
theorem lpSL_inv (c : α → D) (I : Nat → Env → Sto → Prop) (hI : ∀ i env st, I i env st → gdP kk all st) : ∀ (xs : List α) (i : Nat) (env : Env) (st : Sto), I i env st →
    (∀ (j : Nat) (x : α) (env : Env) (st : Sto), xs[j]? = some x → I (i + j) env st → ∃ env1, g (c x) env = some env1 ∧ ∃ e s, (m env1 st = .nx e s ∨ m env1 st = .ct e s) ∧ I (i + j + 1) e s) →
    ∃ e s, lpSL kk all g m (xs.map c) env st = .nx e s ∧ I (i + xs.length) e s
  | [], i, env, st, h0, _ => ⟨env, st, lpSL_nil (hI _ _ _ h0), h0⟩
  | x :: xs, i, env, st, h0, h => by
    obtain ⟨env1, h1, e, s, h2, h3⟩ := h 0 x env st rfl h0
    obtain ⟨e', s', h4, h5⟩ := lpSL_inv c I hI xs (i + 1) e s h3 fun j y en stt hy hI2 => by
      have := h (j + 1) y en stt (by simpa using hy) (by rw [show i + (j + 1) = i + 1 + j by omega]; exact hI2)
      rw [show i + (j + 1) + 1 = i + 1 + j + 1 by omega] at this
      exact this
    refine ⟨e', s', ?_, by rw [List.length_cons, show i + (xs.length + 1) = i + 1 + xs.length by omega]; exact h5⟩
    rw [List.map_cons, lpSL_cons (hI _ _ _ h0) h1]
    rcases h2 with h2 | h2 <;> (rw [h2]; exact h4)
/-- a comprehension whose parts leave the store -/
theorem lpL_map (c : α → D) (p : α → Bool) (f : α → D) : ∀ (xs : List α) (acc : List D), (∀ x ∈ xs, ∃ env1, g (c x) env = some env1 ∧ tt env1 st = .ok (p x) st ∧ (p x = true → te env1 st = .ok (f x) st)) → acc.length + xs.length ≤ LIM →
    lpL g tt te (xs.map c) env acc st = .ok (acc ++ (xs.filter p).map f) st
  | [], acc, _, _ => by
    show Res.ok acc st = Res.ok (acc ++ []) st
    rw [List.append_nil]
  | x :: xs, acc, h, hl => by
    obtain ⟨env1, h1, h2, h3⟩ := h x List.mem_cons_self
    rw [List.length_cons] at hl
    have : lpL g tt te ((x :: xs).map c) env acc st = (match g (c x) env with
      | none => .bad
      | some env1 => (noEr (tt env1 st)).bind fun b s => if b = true then (noEr (te env1 s)).bind fun y s2 => if acc.length < LIM then lpL g tt te (xs.map c) env (acc ++ [y]) s2 else .bad else lpL g tt te (xs.map c) env acc s) := rfl
    rw [this, h1]
    simp only [h2, noEr_ok, Res.bind_ok]
    cases hp : p x with
    | false =>
      rw [if_neg (by decide), lpL_map c p f xs acc (fun y hy => h y (List.mem_cons_of_mem _ hy)) (by omega), List.filter_cons_of_neg (by rw [hp]; decide)]
    | true =>
      rw [if_pos rfl, h3 hp, noEr_ok, Res.bind_ok, if_pos (by omega), lpL_map c p f xs (acc ++ [f x]) (fun y hy => h y (List.mem_cons_of_mem _ hy)) (by rw [List.length_append, List.length_singleton]; omega), List.filter_cons_of_pos hp, List.map_cons, List.append_assoc]
      rfl
theorem lpLL_eq (hg : gdP kk all st) : ∀ (ds acc : List D), (∀ d ∈ ds, ∀ env1, g d env = some env1 → ∃ b, tt env1 st = .ok b st ∧ (b = true → ∃ y, te env1 st = .ok y st)) → lpLL kk all g tt te ds env acc st = lpL g tt te ds env acc st
  | [], acc, _ => if_pos hg
  | d :: ds, acc, h => by
    have e1 : lpLL kk all g tt te (d :: ds) env acc st = (match g d env with
      | none => .bad
      | some env1 => (noEr (tt env1 st)).bind fun b s => if b = true then (noEr (te env1 s)).bind fun y s2 => if acc.length < LIM then lpLL kk all g tt te ds env (acc ++ [y]) s2 else .bad else lpLL kk all g tt te ds env acc s) := if_pos hg
    have e2 : lpL g tt te (d :: ds) env acc st = (match g d env with
      | none => .bad
      | some env1 => (noEr (tt env1 st)).bind fun b s => if b = true then (noEr (te env1 s)).bind fun y s2 => if acc.length < LIM then lpL g tt te ds env (acc ++ [y]) s2 else .bad else lpL g tt te ds env acc s) := rfl
    rw [e1, e2]
    cases hd : g d env with
    | none => rfl
    | some env1 =>
      obtain ⟨b, hb, hy⟩ := h d List.mem_cons_self env1 hd
      have ih := fun acc => lpLL_eq hg ds acc fun x hx => h x (List.mem_cons_of_mem _ hx)
      simp only [hb, noEr_ok, Res.bind_ok]
      cases b with
      | false => exact ih acc
      | true =>
        obtain ⟨y, hy⟩ := hy rfl
        simp only [hy, noEr_ok, Res.bind_ok, if_true, ih]
theorem lpLL_map (hg : gdP kk all st) (c : α → D) (p : α → Bool) (f : α → D) (xs : List α) (acc : List D) (h : ∀ x ∈ xs, ∃ env1, g (c x) env = some env1 ∧ tt env1 st = .ok (p x) st ∧ (p x = true → te env1 st = .ok (f x) st)) (hl : acc.length + xs.length ≤ LIM) :
    lpLL kk all g tt te (xs.map c) env acc st = .ok (acc ++ (xs.filter p).map f) st := by
  rw [lpLL_eq hg (xs.map c) acc fun d hd env1 he => ?_, lpL_map c p f xs acc h hl]
  obtain ⟨x, hx, rfl⟩ := List.mem_map.mp hd
  obtain ⟨env2, h1, h2, h3⟩ := h x hx
  rw [he] at h1
  cases h1
  exact ⟨p x, h2, fun hb => ⟨f x, h3 hb⟩⟩
end
/-! ### the cut at a def's end -/
@[simp] theorem clo_non {n : Nat} : D.non.clo n = true := by unfold D.clo; rfl
@[simp] theorem clo_int {n : Nat} (i : Int) : (D.int i).clo n = true := by unfold D.clo; rfl
@[simp] theorem clo_bl {n : Nat} (i : Bool) : (D.bl i).clo n = true := by unfold D.clo; rfl
@[simp] theorem clo_str {n : Nat} (i : Str) : (D.str i).clo n = true := by unfold D.clo; rfl
@[simp] theorem clo_lst {n : Nat} (ds : List D) : (D.lst ds).clo n = cloAll n ds := by rw [D.clo]
@[simp] theorem clo_tup {n : Nat} (ds : List D) : (D.tup ds).clo n = cloAll n ds := by rw [D.clo]
@[simp] theorem clo_obj {n c : Nat} (ds : List D) : (D.obj c ds).clo n = cloAll n ds := by rw [D.clo]
@[simp] theorem clo_own {n k : Nat} : (D.own k).clo n = decide (k < n) := by unfold D.clo; rfl
@[simp] theorem cloAll_nil {n : Nat} : cloAll n [] = true := by unfold cloAll; rfl
@[simp] theorem cloAll_cons {n : Nat} (d : D) (ds : List D) : cloAll n (d :: ds) = (d.clo n && cloAll n ds) := by rw [cloAll]
theorem cloAll_app {n : Nat} (ds es : List D) : cloAll n (ds ++ es) = (cloAll n ds && cloAll n es) := by
  induction ds with
  | nil => simp
  | cons d ds ih => rw [List.cons_append, cloAll_cons, ih, cloAll_cons, Bool.and_assoc]
theorem cloAll_all {n : Nat} {ds : List D} (h : ∀ d ∈ ds, d.clo n = true) : cloAll n ds = true := by
  induction ds with
  | nil => exact cloAll_nil
  | cons d ds ih => rw [cloAll_cons, h d List.mem_cons_self, ih fun e he => h e (List.mem_cons_of_mem _ he)]; rfl
@[simp] theorem cloAll_ints {n : Nat} (ns : List Int) : cloAll n (ns.map D.int) = true := cloAll_all fun d hd => by
  obtain ⟨i, _, rfl⟩ := List.mem_map.mp hd
  exact clo_int i
theorem tame_refl (st : Sto) : tame st st := ⟨Nat.le_refl _, fun _ _ => .inl rfl⟩
theorem tame_app (st t : Sto) : tame st (st ++ t) := ⟨by rw [List.length_append]; omega, fun k hk => .inl (List.getElem?_append_left hk)⟩
/-- a def that leaves the store, but for new objects -/
theorem fnC_pure {n : Nat} {m : SM} {ds : List D} {st t : Sto} {d : D} (h : (m (envOf n ds) st).ret0 = .ok d (st ++ t)) (hc : d.clo st.length = true) : fnC n m ds st = .ok d st := by
  rw [fnC_ok h hc (tame_app st t), List.take_left]
theorem fnC_same {n : Nat} {m : SM} {ds : List D} {st : Sto} {d : D} (h : (m (envOf n ds) st).ret0 = .ok d st) (hc : d.clo st.length = true) : fnC n m ds st = .ok d st := by
  rw [fnC_ok h hc (tame_refl st), List.take_length]
end MX
set_option maxHeartbeats 1000000
/-! MX, part 11: a method called with one keyword alone. -/
namespace MX
open PySem L2 PyProof.Rows
def tMethKw (C : Addr) (nm : Str) (n : Nat) (sp : Sp) (E : XK) (ta : TE) (tk : TA) : TE := fun σ H Q => ta σ H fun x H1 => ∃ a dx fs, x = .ref a ∧ H1 a = some (.ins C dx fs) ∧ fs.lookup nm = none ∧ tk σ H1 fun zs H2 => zs.length = n ∧ sp (.ref a :: zs) H2 Q E
section
variable {X : Cx} {CX : CXT} {k : Nat} {f C : Addr} {fd : FuncData} {ps ks : List Str} {sp : Sp} {E : XK} {m : Str} {apos pos : Pos} {o : Expr} {kws : List Keyword} {ta : TE} {tk : TA}
theorem pe_methKw {pl : Sem Bool} (he : PE X o ta) (c : Cls X.K C) (hm : Meth X.K C m f) (F : FnOk X.prog X.w X.K X.mg X.base CX k f fd ps sp) (hr : Room k X.A) (hb : KBn X.K fd ps 1 ks (fun us ws => us ++ ws) (fun vs zs => vs ++ zs)) (hx : Passes CX X E) (hk : PK X kws tk)
    (ht : eval (.Call (.Attribute o m apos) [] kws pos) X.env = (do
      let ov ← eval o X.env
      standAt apos.atName
      let (f, first) ← holding [ov] (getMethod ov m pl)
      callWith pos f first (backTo pos (starEach [] X.env)) (backToKw pos (keywordEach kws X.env))))
    (hall : (backToKw pos (keywordEach kws X.env)).all (·.1.isSome) = true) (hks : (backToKw pos (keywordEach kws X.env)).filterMap (·.1) = ks)
    (hpl : ((backTo pos (starEach [] X.env)).any (·.1) || (backToKw pos (keywordEach kws X.env)).any (·.1.isNone)) = false) :
    PE X (.Call (.Attribute o m apos) [] kws pos) (tMethKw C m ks.length sp E ta tk) := by
  refine ⟨fun pins s σ H Q I h => ?_⟩
  refine PySem.W.methodCall_KW (pl := pl) (thn (he.run pins s σ H _ I h) fun u s1 ⟨x, H1, I1, rx, a, dx, fs, ex, ea, l, q⟩ => ?_) ht
  subst ex
  obtain rfl : u = Value.ref a := rx
  refine getmeth_ok I1 ea c hm l ?_
  refine PySem.W.callWith_KW0 (first := [.ref a]) (h₀ := X.base) I.ok.mod.kin hm.kp hall (thn (hk.run pos pins s1 σ H1 _ I1 q) fun ws s2 ⟨zs, H2, I2, rz, l2, q2⟩ => ⟨I2.kIn, ?_⟩) hpl
  rw [hks]
  exact run_fnN (n := 1) (us := [.ref a]) (vs := [.ref a]) F hr hb hx I2 (.cons rfl .nil) rz rfl l2 q2
end
section
variable {X : Cx} {ca : CA} {W : WX} {o e : Expr} {f fo : EM} {apos pos kp : Pos} {k : Nat} {fa : Addr} {fd : FuncData} {m : FM} {x kn : Str} {c : Nat}
/-- o.m(k=e) -/
theorem me_methKw {p0 : Str} {pl : Sem Bool} (hc : Cls X.K (ca c)) (hmt : Meth X.K (ca c) x fa) (hx : x ∉ lay c) (F : Fk0 X ca k fa fd [p0, kn] m) (ne : NoE m) (hr : Room k X.A) (hb : KBn X.K fd [p0, kn] 1 [kn] (fun us ws => us ++ ws) (fun vs zs => vs ++ zs))
    (ho : ME X ca W o fo) (ha : ME X ca W e f)
    (ht : eval (.Call (.Attribute o x apos) [] [⟨some kn, e, kp⟩] pos) X.env = (do
      let ov ← eval o X.env
      standAt apos.atName
      let (f, first) ← holding [ov] (getMethod ov x pl)
      callWith pos f first (backTo pos (starEach [] X.env)) (backToKw pos (keywordEach [⟨some kn, e, kp⟩] X.env))) := by rfl)
    (hall : (backToKw pos (keywordEach [⟨some kn, e, kp⟩] X.env)).all (·.1.isSome) = true := by rfl) (hks : (backToKw pos (keywordEach [⟨some kn, e, kp⟩] X.env)).filterMap (·.1) = [kn] := by rfl)
    (hpl : ((backTo pos (starEach [] X.env)).any (·.1) || (backToKw pos (keywordEach [⟨some kn, e, kp⟩] X.env)).any (·.1.isNone)) = false := by rfl) :
    ME X ca W (.Call (.Attribute o x apos) [] [⟨some kn, e, kp⟩] pos) (mthM c m fo (consA f nilA)) := by
  obtain ⟨to, b1, b2⟩ := ho
  obtain ⟨ta, a1, a2⟩ := ha
  refine ⟨_, pe_methKw b1 hc hmt F hr hb pass0 (pk_cons a1 pk_nil) ht hall hks hpl, fun F r G σ H env st Q S E h => ?_⟩
  refine b2 F r G σ H env st _ S E (Post.imp (Post.bind h) fun F1 r1 H1 s1 d e1 p1 S1 h1 v rv => ?_)
  cases z : objD d s1 with
  | none => simp only [z] at h1; exact h1.elim
  | some cd =>
    obtain ⟨c', ds0⟩ := cd
    simp only [z] at h1
    by_cases ec : c' = c
    · rw [if_pos ec] at h1
      subst ec
      obtain ⟨a, dx, xs, rfl, g1, g2, q⟩ := objD_at S1 rv z
      refine ⟨a, dx, _, rfl, g1, zip_none hx _, ?_⟩
      refine a2 F1 r1 G σ H1 env s1 _ S1 (E.mono e1 p1) (Post.imp (Post.bind (Post.bind h1)) fun F2 r2 H2 s2 d2 e2 p2 S2 h2 v2 rv2 => ?_)
      refine ⟨rfl, ?_⟩
      have r3 := RVs.cons (rv.mono e2 p2) (RVs.cons rv2 .nil)
      exact sp_of ne S2 r3 rfl (h2 F2 r2 H2 (Evl.Ex.refl _) (List.prefix_refl _) S2)
    · rw [if_neg ec] at h1; exact h1.elim
end
theorem kbn1 {K : PySem.W.Frag} {fd : FuncData} {p0 kn : Str} (h : ∀ u w : Value, bindArgs fd ⟨[u], [(kn, w)]⟩ = pure [(p0, u), (kn, w)]) : KBn K fd [p0, kn] 1 [kn] (fun us ws => us ++ ws) (fun vs zs => vs ++ zs) where
  to := fun s us ws _ l1 l2 => match us, ws, l1, l2 with
    | [u], [w], _, _ => .of_eq (h u w)
  rel := fun h1 h2 => h1.append h2
end MX
namespace MX
open PySem L2 PyProof.Rows
section
variable {X : Cx} {ca : CA} {W : WX} {a b c : Expr} {am : AM} {x y z : Str} {px py pz pt pos : Pos} {kt k2 : _} {pt2 : Pos} {i j l : Nat}
/-- a, b = e, e' : stored from the right -/
theorem ms_par (hc : X.calm = true) (hN : X.N.Nodup) (hij : i ≠ j) (ha : MA X ca W [a, b] am) (hi : X.N[i]? = some x := by rfl) (hj : X.N[j]? = some y := by rfl)
    (hx : X.env.scope.names.lookup x = some .local := by rfl) (hy : X.env.scope.names.lookup y = some .local := by rfl)
    (hw : swappedStores [.Tuple [.Name x px, .Name y py] kt pt] (.Tuple [a, b] k2 pt2) X.env = pure (some [x, y]) := by rfl)
    (hs : swapsWithSole [.Tuple [.Name x px, .Name y py] kt pt] (.Tuple [a, b] k2 pt2) pos.line X.env = pure false := by rfl) :
    MS X ca W (.Assign [.Tuple [.Name x px, .Name y py] kt pt] (.Tuple [a, b] k2 pt2) pos) (asgS (tupM am) (tupG 2 (consG (nmG i) (consG (nmG j) nilG)))) := by
  obtain ⟨ta, a1, a2⟩ := ha
  refine ⟨_, ps_par hc hN hi hj hij hx hy a1 hw hs, fun F r G σ H env st D S E h => ?_⟩
  refine a2 F r G σ H env st _ S E (Post.imp (Post.bind (PostS.ofE E h)) fun F1 r1 H1 s1 ds e1 p1 S1 h1 vs rv => ?_)
  by_cases hl : ds.length ≤ LIM
  · rw [if_pos hl] at h1
    have h2 := h1 F1 r1 H1 (Evl.Ex.refl _) (List.prefix_refl _) S1
    match ds, rv, h2 with
    | [d1, d2], .cons r1' (.cons r2' .nil), h2 => exact ⟨_, _, rfl, h2 F1 r1 H1 _ (Evl.Ex.refl _) (List.prefix_refl _) S1 (((E.mono e1 p1).set r1' i).set r2' j)⟩
    | [], _, h2 => exact h2.elim
    | [_], _, h2 => exact h2.elim
    | e1 :: e2 :: e3 :: es, _, h2 =>
      exfalso
      have e : tupG 2 (consG (nmG i) (consG (nmG j) nilG)) (.tup (e1 :: e2 :: e3 :: es)) env = none := by
        unfold tupG
        exact if_neg (by simp)
      simp only [e] at h2
      exact h2
  · rw [if_neg hl] at h1; exact h1.elim
theorem ms_par3 (hc : X.calm = true) (hN : X.N.Nodup) (hij : i ≠ j) (hil : i ≠ l) (hjl : j ≠ l) (ha : MA X ca W [a, b, c] am) (hi : X.N[i]? = some x := by rfl) (hj : X.N[j]? = some y := by rfl) (hk : X.N[l]? = some z := by rfl)
    (hx : X.env.scope.names.lookup x = some .local := by rfl) (hy : X.env.scope.names.lookup y = some .local := by rfl) (hz : X.env.scope.names.lookup z = some .local := by rfl)
    (hw : swappedStores [.Tuple [.Name x px, .Name y py, .Name z pz] kt pt] (.Tuple [a, b, c] k2 pt2) X.env = pure (some [x, y, z]) := by rfl)
    (hs : swapsWithSole [.Tuple [.Name x px, .Name y py, .Name z pz] kt pt] (.Tuple [a, b, c] k2 pt2) pos.line X.env = pure false := by rfl) :
    MS X ca W (.Assign [.Tuple [.Name x px, .Name y py, .Name z pz] kt pt] (.Tuple [a, b, c] k2 pt2) pos) (asgS (tupM am) (tupG 3 (consG (nmG i) (consG (nmG j) (consG (nmG l) nilG))))) := by
  obtain ⟨ta, a1, a2⟩ := ha
  refine ⟨_, ps_par3 hc hN hi hj hk hij hil hjl hx hy hz a1 hw hs, fun F r G σ H env st D S E h => ?_⟩
  refine a2 F r G σ H env st _ S E (Post.imp (Post.bind (PostS.ofE E h)) fun F1 r1 H1 s1 ds e1 p1 S1 h1 vs rv => ?_)
  by_cases hl : ds.length ≤ LIM
  · rw [if_pos hl] at h1
    have h2 := h1 F1 r1 H1 (Evl.Ex.refl _) (List.prefix_refl _) S1
    match ds, rv, h2 with
    | [d1, d2, d3], .cons r1' (.cons r2' (.cons r3' .nil)), h2 => exact ⟨_, _, _, rfl, h2 F1 r1 H1 _ (Evl.Ex.refl _) (List.prefix_refl _) S1 ((((E.mono e1 p1).set r1' i).set r2' j).set r3' l)⟩
    | [], _, h2 => exact h2.elim
    | [_], _, h2 => exact h2.elim
    | [_, _], _, h2 => exact h2.elim
    | e1 :: e2 :: e3 :: e4 :: es, _, h2 =>
      exfalso
      have e : tupG 3 (consG (nmG i) (consG (nmG j) (consG (nmG l) nilG))) (.tup (e1 :: e2 :: e3 :: e4 :: es)) env = none := by
        unfold tupG
        exact if_neg (by simp)
      simp only [e] at h2
      exact h2
  · rw [if_neg hl] at h1; exact h1.elim
end
end MX
set_option maxHeartbeats 1000000
/-! MX, part 12: exceptions: raise, defs that let them out, calls of such defs, try. -/
namespace MX
open PySem L2 PyProof.Rows
/-- raise C('..') -/
def raiseS (c : Nat) : SM := fun env st => .er ⟨c, none⟩ env st
theorem raiseS_ap {c : Nat} {env : Env} {st : Sto} : raiseS c env st = .er ⟨c, none⟩ env st := Eq.trans rfl rfl
/-- what an own class of exceptions must have -/
structure ExF (K : PySem.W.Frag) (C : Addr) : Prop where
  ex : PySem.W.excIn K C [.type "ValueError", .type "Exception", .type "BaseException", .type "object"] "ValueError.__new__" = true
  kp : PySem.W.keepIn K (.ref C) = true
  sb : PySem.W.subIn K (.ref C) (.type "BaseException") = some true
  ty : PySem.W.typeIn K (.ref C) = some (.type "type")
section
variable {X : Cx} {ca : CA} {W : WX} {x m : Str} {c j : Nat} {p p2 pos pos2 : Pos}
theorem ms_raise (hc : X.calm = true) (tk : Takes X W) (F : ExF X.K (ca c)) (gC : X.mg x = some (.ref (ca c))) (hg : Gl X x := by rfl) (hdb : (x == ("__debug__" : Str)) = false := by decide) :
    MS X ca W (.Raise (some (.Call (.Name x p) [.Constant (.str m) j p2] [] pos2)) none pos) (raiseS c) :=
  ⟨_, ps_raise hc tk (pmk_own PySem.F.excBase_ValueError F.ex gC F.kp (raises_own F.sb F.ty) hg hdb), fun F r G σ H env st D S E h => h F r H σ _ _ (Evl.Ex.refl _) (List.prefix_refl _) S E ⟨rfl, rfl⟩⟩
end
/-! ### defs that let exceptions out -/
def fnX (n : Nat) (body : SM) : FM := fun ds st => (body (envOf n ds) st).ret
open Classical in
noncomputable def fnXC (n : Nat) (body : SM) : FM := fun ds st => cutR st (fnX n body ds st)
abbrev FkX (X : Cx) (ca : CA) (k : Nat) (f : Addr) (fd : FuncData) (ps : List Str) (m : FM) : Prop := FnOk X.prog X.w X.K X.mg X.base (L2.CX X.prog X.w) k f fd ps (spM X.K ca ps.length m)
section
variable {K : PySem.W.Frag} {ca : CA} {P : Program} {w : World} {mg : Str → Option Value} {base : Heap}
theorem fn_okX {x qual : Str} {st : Stmt} {f : Addr} {fd : FuncData} {N ps : List Str} {k : Nat} {body : SM} (F : Fun K x qual st f fd) (S : FnScope N ps (defScope st))
    (hb : ∀ (cdv : Value) (A : Around) (outer : List PySem.Env) (s : Shared) (H : Hp) (E : XK), Room k (A.deeper (envOfC qual (defScope st) s.heap.objs.size f cdv)) →
      Takes (cxOf (L2.CX P w) P w K mg base N qual (defScope st) f cdv A outer s H E) (fun cls d _ H => E cls d H) → PassesOwn (model P w) (A.deeper (envOfC qual (defScope st) s.heap.objs.size f cdv)) (cxOf (L2.CX P w) P w K mg base N qual (defScope st) f cdv A outer s H E).env (cxOf (L2.CX P w) P w K mg base N qual (defScope st) f cdv A outer s H E).xe →
      MSs (cxOf (L2.CX P w) P w K mg base N qual (defScope st) f cdv A outer s H E) ca (fun cls d _ H => E cls d H) (defBody st) body) :
    FnOk P w K mg base (L2.CX P w) (k + 1) f fd ps (spM K ca ps.length (fnX N.length body)) := by
  refine F.okX S (fun vs H Q E h => ?_) (fun cdv A outer s H vs Q E hr h => ?_)
  · obtain ⟨F1, r, G, ds, st', S1, hv, e, hp⟩ := h
    exact e
  · obtain ⟨F1, r, G, ds, st', S1, hv, e, hp⟩ := h
    obtain ⟨t, t1, t2⟩ := hb cdv A outer s H E hr (takes_of rfl rfl rfl rfl) (passes_of rfl)
    refine ⟨t, t1, ?_⟩
    refine t2 F1 r G _ H (envOf N.length ds) st' _ S1 (re_start hv) ?_
    unfold fnX at hp
    cases z : body (envOf N.length ds) st' with
    | nx e1 s1 => rw [z] at hp; exact fun F' r' H' σ' e' p' S' E' => hp F' r' H' e' p' S' .non .non
    | rt d s1 => rw [z] at hp; exact fun F' r' H' v e' p' S' rv => hp F' r' H' e' p' S' v rv
    | er x e1 s1 => rw [z] at hp; exact fun F' r' H' σ' cls dx e' p' S' E' rx => hp F' r' H' cls dx e' p' S' rx
    | bk e1 s1 => rw [z] at hp; exact hp.elim
    | ct e1 s1 => rw [z] at hp; exact hp.elim
    | bad => rw [z] at hp; exact hp.elim
theorem fn_cutX {k n : Nat} {f : Addr} {fd : FuncData} {ps : List Str} {N : Nat} {b : SM} (F : FnOk P w K mg base (L2.CX P w) k f fd ps (spM K ca n (fnX N b))) : FnOk P w K mg base (L2.CX P w) k f fd ps (spM K ca n (fnXC N b)) :=
  F.imp fun vs H Q E h => sp_cut h
end
/-! ### calls that may raise -/
section
variable {X : Cx} {CX : CXT} {k : Nat} {f C : Addr} {fd : FuncData} {ps ks : List Str} {sp : Sp} {E : L2.St → XK} {m : Str} {apos pos : Pos} {o e : Expr} {es : List Expr} {kws : List Keyword} {ta : TE} {t tk : TA} {ds : List Value} {dvs : List V}
theorem run_fnSD2 {pins : List (Addr × Obj)} {σ : L2.St} {s : Shared} {H : Hp} {Q : VK} {us : List Value} {vs : List V} (F : FnOk X.prog X.w X.K X.mg X.base CX k f fd ps sp) (hr : Room k X.A) (hb : Binds X.K fd ps ds) (hd : Vals dvs ds) (hx : PassesAt CX X σ (E σ))
    (I : Inv X pins σ H s) (r : Vals vs us) (h : sp (vs ++ dvs) H Q (E σ)) : wpAny (model X.prog X.w) X.A (call (.ref f) us) (EP X pins σ Q) X.xe s := by
  have r2 : Vals (vs ++ dvs) (us ++ ds) := r.append hd
  have hl : (us ++ ds).length = ps.length := by rw [← r2.length]; exact F.len _ _ _ _ h
  refine wpAny_call (codeAny_mono (F.run X.A X.stack s H ⟨us, []⟩ (us ++ ds) (vs ++ dvs) Q (E σ) hr I.env0 (hb s us I.kIn hl) r2 h) fun r s' hq => ?_)
  cases r with
  | error e => exact hx pins H s e s' I hq
  | ok fl =>
    cases fl with
    | ret u => exact I.after hq
    | next => exact False.elim hq
    | brk => exact False.elim hq
    | cont => exact False.elim hq
def tMethX (C : Addr) (nm : Str) (sp : Sp) (dvs : List V) (E : L2.St → XK) (ta : TE) (t : TA) : TE := fun σ H Q => ta σ H fun x H1 => ∃ a dx fs, x = .ref a ∧ H1 a = some (.ins C dx fs) ∧ fs.lookup nm = none ∧ t σ H1 fun vs H2 => sp (.ref a :: (vs ++ dvs)) H2 Q (E σ)
theorem pe_methX {pl : Sem Bool} (he : PE X o ta) (c : Cls X.K C) (hm : Meth X.K C m f) (F : FnOk X.prog X.w X.K X.mg X.base CX k f fd ps sp) (hr : Room k X.A) (hb : Binds X.K fd ps ds) (hd : Vals dvs ds) (hx : ∀ σ, PassesAt CX X σ (E σ)) (ha : PA X (e :: es) t)
    (hst : starEach (e :: es) X.env = (false, eval e X.env) :: starEach es X.env) (hpl : (backTo pos (starEach es X.env)).any (·.1) = false)
    (ht : eval (.Call (.Attribute o m apos) (e :: es) [] pos) X.env = (do
      let ov ← eval o X.env
      standAt apos.atName
      let (f, first) ← holding [ov] (getMethod ov m pl)
      callWith pos f first (backTo pos (starEach (e :: es) X.env)) (backToKw pos (keywordEach [] X.env)))) :
    PE X (.Call (.Attribute o m apos) (e :: es) [] pos) (tMethX C m sp dvs E ta t) := by
  refine ⟨fun pins s σ H Q I h => ?_⟩
  refine PySem.W.methodCall_KW (pl := pl) (thn (he.run pins s σ H _ I h) fun u s1 ⟨x, H1, I1, rx, a, dx, fs, ex, ea, l, q⟩ => ?_) ht
  subst ex
  obtain rfl : u = Value.ref a := rx
  refine getmeth_ok I1 ea c hm l ?_
  refine PySem.W.callWith_K (first := [.ref a]) (h₀ := X.base) I.ok.mod.kin hm.kp (thn (ha.run pos pins s1 σ H1 _ I1 q) fun us s2 ⟨vs, H2, I2, r, q2⟩ => ⟨I2.kIn, ?_⟩) hst hpl
  exact run_fnSD2 (us := .ref a :: us) (vs := .ref a :: vs) F hr hb hd (hx σ) I2 (.cons rfl r) q2
theorem pe_methX0 {pl : Sem Bool} (he : PE X o ta) (c : Cls X.K C) (hm : Meth X.K C m f) (F : FnOk X.prog X.w X.K X.mg X.base CX k f fd ps sp) (hr : Room k X.A) (hb : Binds X.K fd ps ds) (hd : Vals dvs ds) (hx : ∀ σ, PassesAt CX X σ (E σ))
    (ht : eval (.Call (.Attribute o m apos) [] [] pos) X.env = (do
      let ov ← eval o X.env
      standAt apos.atName
      let (f, first) ← holding [ov] (getMethod ov m pl)
      callWith pos f first (backTo pos (starEach [] X.env)) (backToKw pos (keywordEach [] X.env)))) :
    PE X (.Call (.Attribute o m apos) [] [] pos) (tMethX C m sp dvs E ta tNil) := by
  refine ⟨fun pins s σ H Q I h => ?_⟩
  refine PySem.W.methodCall_KW (pl := pl) (thn (he.run pins s σ H _ I h) fun u s1 ⟨x, H1, I1, rx, a, dx, fs, ex, ea, l, q⟩ => ?_) ht
  subst ex
  obtain rfl : u = Value.ref a := rx
  refine getmeth_ok I1 ea c hm l ?_
  exact PySem.W.callWith_K0 (first := [.ref a]) I1.kIn hm.kp (run_fnSD2 (us := [.ref a]) (vs := [.ref a]) F hr hb hd (hx σ) I1 (.cons rfl .nil) q)
end
section
variable {X : Cx} {ca : CA} {W : WX} {o e : Expr} {es : List Expr} {f fo : EM} {am : AM} {p pos apos : Pos} {k : Nat} {fa : Addr} {fd : FuncData} {ps : List Str} {m : FM} {x : Str} {c : Nat}
theorem spx_of {F : Hp} {r : List Addr} {G H : Hp} {σ : L2.St} {st : Sto} {vs : List V} {ds : List D} {Q : VK} (S : SR X.K ca F r G H st) (rv : RVs X.K ca F r vs ds) (hl : vs.length = ps.length) (h : Post X.K ca W σ F r G (m ds st) (WV X.K ca Q)) : spM X.K ca ps.length m vs H Q (WE W σ) := by
  refine ⟨F, r, G, ds, st, S, rv, hl, ?_⟩
  cases z : m ds st with
  | ok d s => rw [z] at h; exact h
  | er e s => rw [z] at h; exact h
  | bad => rw [z] at h; exact h.elim
theorem me_callX (F : FkX X ca k fa fd ps m) (tk : Takes X W) (hr : Room k X.A) (hm : X.mg x = some (.ref fa)) (hk : PySem.W.keepIn X.K (.ref fa) = true) (hb : Binds X.K fd ps [])
    (ha : MA X ca W (e :: es) am) (hg : Gl X x := by rfl) (hdb : (x == ("__debug__" : Str)) = false := by decide) (he : starEach (e :: es) X.env = (false, eval e X.env) :: starEach es X.env := by rfl) (hpl : (backTo pos (starEach es X.env)).any (·.1) = false := by rfl) :
    ME X ca W (.Call (.Name x p) (e :: es) [] pos) (callM m (argM ps.length [] am)) := by
  obtain ⟨ta, a1, a2⟩ := ha
  refine ⟨_, pe_callS F hr hg hm hk hb (fun σ => passAt tk σ) a1 hdb he hpl, fun F r G σ H env st Q S E h => ?_⟩
  refine sim_args a2 S E (Post.bind h) fun F2 r2 H2 s2 ds vs e2 p2 S2 h2 hl rvs => ?_
  rw [List.append_nil] at h2 hl
  exact spx_of S2 rvs (by rw [rvs.length, hl]) h2
theorem me_methX {p0 : Str} {pl : Sem Bool} {dvs : List V} {dd : List D} {dU : List Value} (hc : Cls X.K (ca c)) (hmt : Meth X.K (ca c) x fa) (hx : x ∉ lay c) (F : FkX X ca k fa fd (p0 :: ps) m) (tk : Takes X W) (hr : Room k X.A) (hb : Binds X.K fd (p0 :: ps) dU) (hd : Vals dvs dU) (hdd : RVd X.K ca dvs dd)
    (ho : ME X ca W o fo) (ha : MA X ca W (e :: es) am)
    (hst : starEach (e :: es) X.env = (false, eval e X.env) :: starEach es X.env := by rfl) (hpl : (backTo pos (starEach es X.env)).any (·.1) = false := by rfl)
    (ht : eval (.Call (.Attribute o x apos) (e :: es) [] pos) X.env = (do
      let ov ← eval o X.env
      standAt apos.atName
      let (f, first) ← holding [ov] (getMethod ov x pl)
      callWith pos f first (backTo pos (starEach (e :: es) X.env)) (backToKw pos (keywordEach [] X.env))) := by rfl) :
    ME X ca W (.Call (.Attribute o x apos) (e :: es) [] pos) (mthM c m fo (argM ps.length dd am)) := by
  obtain ⟨to, b1, b2⟩ := ho
  obtain ⟨ta, a1, a2⟩ := ha
  refine ⟨_, pe_methX b1 hc hmt F hr hb hd (fun σ => passAt tk σ) a1 hst hpl ht, fun F r G σ H env st Q S E h => ?_⟩
  refine b2 F r G σ H env st _ S E (Post.imp (Post.bind h) fun F1 r1 H1 s1 d e1 p1 S1 h1 v rv => ?_)
  cases z : objD d s1 with
  | none => simp only [z] at h1; exact h1.elim
  | some cd =>
    obtain ⟨c', ds0⟩ := cd
    simp only [z] at h1
    by_cases ec : c' = c
    · rw [if_pos ec] at h1
      subst ec
      obtain ⟨a, dx, xs, rfl, g1, g2, q⟩ := objD_at S1 rv z
      refine ⟨a, dx, _, rfl, g1, zip_none hx _, sim_args a2 S1 (E.mono e1 p1) (Post.bind h1) fun F2 r2 H2 s2 ds vs e2 p2 S2 h2 hl rvs => ?_⟩
      have r3 := RVs.cons (rv.mono e2 p2) (rvs.append (hdd F2 r2))
      exact spx_of S2 r3 (by rw [r3.length, List.length_cons, List.length_cons, hl]) h2
    · rw [if_neg ec] at h1; exact h1.elim
theorem me_methX0 {p0 : Str} {pl : Sem Bool} {dvs : List V} {dd : List D} {dU : List Value} (hc : Cls X.K (ca c)) (hmt : Meth X.K (ca c) x fa) (hx : x ∉ lay c) (F : FkX X ca k fa fd (p0 :: ps) m) (tk : Takes X W) (hr : Room k X.A) (hb : Binds X.K fd (p0 :: ps) dU) (hd : Vals dvs dU) (hdd : RVd X.K ca dvs dd)
    (ho : ME X ca W o fo)
    (ht : eval (.Call (.Attribute o x apos) [] [] pos) X.env = (do
      let ov ← eval o X.env
      standAt apos.atName
      let (f, first) ← holding [ov] (getMethod ov x pl)
      callWith pos f first (backTo pos (starEach [] X.env)) (backToKw pos (keywordEach [] X.env))) := by rfl) :
    ME X ca W (.Call (.Attribute o x apos) [] [] pos) (mthM c m fo (argM ps.length dd nilA)) := by
  obtain ⟨to, b1, b2⟩ := ho
  refine ⟨_, pe_methX0 b1 hc hmt F hr hb hd (fun σ => passAt tk σ) ht, fun F r G σ H env st Q S E h => ?_⟩
  refine b2 F r G σ H env st _ S E (Post.imp (Post.bind h) fun F1 r1 H1 s1 d e1 p1 S1 h1 v rv => ?_)
  cases z : objD d s1 with
  | none => simp only [z] at h1; exact h1.elim
  | some cd =>
    obtain ⟨c', ds0⟩ := cd
    simp only [z] at h1
    by_cases ec : c' = c
    · rw [if_pos ec] at h1
      subst ec
      obtain ⟨a, dx, xs, rfl, g1, g2, q⟩ := objD_at S1 rv z
      refine ⟨a, dx, _, rfl, g1, zip_none hx _, sim_args (ta := tNil) (am := nilA) (K := X.K) (fun F r G σ H env st Q S E h => h F r H (Evl.Ex.refl _) (List.prefix_refl _) S [] .nil) S1 (E.mono e1 p1) (Post.bind h1) fun F2 r2 H2 s2 ds vs e2 p2 S2 h2 hl rvs => ?_⟩
      have r3 := RVs.cons (rv.mono e2 p2) (rvs.append (hdd F2 r2))
      exact spx_of S2 r3 (by rw [r3.length, List.length_cons, List.length_cons, hl]) h2
    · rw [if_neg ec] at h1; exact h1.elim
end
end MX
set_option maxHeartbeats 1000000
/-! MX, part 13: try .. except C, try .. except C as e; isinstance(e, ..) of the exception that is caught. -/
namespace MX
open PySem L2 PyProof.Rows
/-- the reading that leans on the mirror alone -/
def starS (K : PySem.W.Frag) (ca : CA) (W : WX) (f : SM) : TS := fun D σ H => ∃ F r G env st, SR K ca F r G H st ∧ RE K ca F r σ env ∧ PostS K ca W F r G (f env st) D
theorem MSs.star {X : Cx} {ca : CA} {W : WX} {ss : List Stmt} {f : SM} (h : MSs X ca W ss f) : PSs X ss (starS X.K ca W f) := by
  obtain ⟨ta, a1, a2⟩ := h
  exact ⟨fun pins s σ H D I ⟨F, r, G, env, st, S, E, q⟩ => a1.run pins s σ H D I (a2 F r G σ H env st D S E q)⟩
/-- no exception leaves the suite -/
def SRes.calm (x : SRes) : SRes := match x with
  | .er _ _ _ => .bad
  | y => y
@[simp] theorem calm_nx (e : Env) (s : Sto) : (SRes.nx e s).calm = .nx e s := Eq.trans rfl rfl
@[simp] theorem calm_rt (d : D) (s : Sto) : (SRes.rt d s).calm = .rt d s := Eq.trans rfl rfl
@[simp] theorem calm_bk (e : Env) (s : Sto) : (SRes.bk e s).calm = .bk e s := Eq.trans rfl rfl
@[simp] theorem calm_ct (e : Env) (s : Sto) : (SRes.ct e s).calm = .ct e s := Eq.trans rfl rfl
open Classical in
/-- try: body, except; ids: the classes that may come, sub: those that are caught -/
noncomputable def tryS (ids : List Nat) (sub : Nat → Bool) (b : SM) (su : Nat → SM) : SM := fun env st => match b env st with
  | .er q e s => if q.at_ = none ∧ q.c ∈ ids then (if sub q.c = true then (su q.c e s).calm else .er q e s) else .bad
  | y => y
theorem tryS_nx {ids : List Nat} {sub : Nat → Bool} {b : SM} {su : Nat → SM} {env e : Env} {st s : Sto} (h : b env st = .nx e s) : tryS ids sub b su env st = .nx e s := by unfold tryS; rw [h]
theorem tryS_rt {ids : List Nat} {sub : Nat → Bool} {b : SM} {su : Nat → SM} {env : Env} {d : D} {st s : Sto} (h : b env st = .rt d s) : tryS ids sub b su env st = .rt d s := by unfold tryS; rw [h]
theorem tryS_er {ids : List Nat} {sub : Nat → Bool} {b : SM} {su : Nat → SM} {env e : Env} {st s : Sto} {c : Nat} (h : b env st = .er ⟨c, none⟩ e s) (hc : c ∈ ids) (hs : sub c = true) : tryS ids sub b su env st = (su c e s).calm := by
  unfold tryS; rw [h]
  show (if _ then _ else _) = _
  rw [if_pos ⟨rfl, hc⟩, if_pos hs]
theorem postS_calm {K : PySem.W.Frag} {ca : CA} {W : WX} {F : Hp} {r : List Addr} {G : Hp} {x : SRes} {D : Ends} (h : PostS K ca W F r G x.calm D) : PostS K ca (fun _ _ _ _ => False) F r G x D := by
  cases x with
  | er _ _ _ => exact h.elim
  | _ => exact h
section
variable {X : Cx} {ca : CA} {W : WX} {body suite : List Stmt} {b₀ : Stmt} {np pos pos' : Pos} {x n : Str} {cc : Nat} {ids : List Nat} {sub : Nat → Bool} {m : SM} {su : Nat → SM}
theorem ms_tryO (hs : X.stack = X.env :: X.outer) (hf : X.env.frame = some X.env.locals) (hc : Names X x (.ref (ca cc))) (tk : Takes X W) (hx : ∀ c ∈ ids, PySem.W.exmOne X.K (.ref (ca c)) (.ref (ca cc)) = some (sub c))
    (hb : ∀ (W : WX) (pn : List (Addr × Obj)) (xe : Value → Shared → Prop), Takes (X.tr pn xe) W → PassesOwn (model X.prog X.w) X.A X.env xe → MSs (X.tr pn xe) ca W body m)
    (hsu : ∀ (c : Nat) (a : Addr) (oe : Obj) (pn : List (Addr × Obj)), c ∈ ids → Zc (.ref (ca c)) none oe → (∃ vs, oe.data = .fields vs) → MSs (X.suite a ((a, oe) :: pn)) ca (fun _ _ _ _ => False) (b₀ :: suite) (su c)) :
    MS X ca W (.Try body [.ExceptHandler (some (.Name x np)) none (b₀ :: suite) pos'] [] [] pos) (tryS ids sub m su) := by
  refine ⟨_, ps_try_only (tb := fun W => starS X.K ca W m) (ts := fun a cls d => fun D σ H => ∃ c, c ∈ ids ∧ cls = .ref (ca c) ∧ d = none ∧ starS X.K ca (fun _ _ _ _ => False) (su c) D σ H) hs hf hc tk
    (fun W pn xe t1 t2 => (hb W pn xe t1 t2).star) (fun a oe cls d pn hz hv => ?_), fun F r G σ H env st D S E h => ?_⟩
  · refine ⟨fun pins s σ H D I ⟨c, h1, h2, h3, q⟩ => ?_⟩
    subst h2 h3
    exact (hsu c a oe pn h1 hz hv).star.run pins s σ H D I q
  · refine ⟨F, r, G, env, st, S, E, ?_⟩
    unfold tryS at h
    cases z : m env st with
    | er q e s =>
      rw [z] at h
      intro F' r' H' σ' cls dx e' p' S' E' rx
      obtain ⟨qc, qa⟩ := q
      by_cases h1 : qa = none ∧ qc ∈ ids
      · obtain ⟨rfl, h2⟩ := h1
        replace h : PostS X.K ca W F r G (if (none : Option MX.D) = none ∧ qc ∈ ids then (if sub qc = true then (su qc e s).calm else .er ⟨qc, none⟩ e s) else .bad) D := h
        rw [if_pos ⟨rfl, h2⟩] at h
        obtain ⟨rc, rd⟩ := rx
        have rd' : dx = none := rd
        subst rc rd'
        refine ⟨sub qc, hx qc h2, fun hb a na => ?_, fun hb => ?_⟩
        · rw [if_pos hb] at h
          exact ⟨qc, h2, rfl, rfl, F', r', G, e, s, S', E', postS_calm (PostS.mono e' p' h)⟩
        · rw [if_neg (by rw [hb]; decide)] at h
          exact h F' r' H' σ' _ _ e' p' S' E' ⟨rfl, rfl⟩
      · replace h : PostS X.K ca W F r G (if qa = none ∧ qc ∈ ids then (if sub qc = true then (su qc e s).calm else .er ⟨qc, qa⟩ e s) else .bad) D := h
        rw [if_neg h1] at h
        exact h.elim
    | nx e s => rw [z] at h; exact h
    | rt e s => rw [z] at h; exact h
    | bk e s => rw [z] at h; exact h
    | ct e s => rw [z] at h; exact h
    | bad => rw [z] at h; exact h.elim
end
/-! ### except C as e -/
/-- the name is gone behind the suite -/
def SRes.gone (x : SRes) (i : Nat) : SRes := match x with
  | .nx e s => .nx (e.set i none) s
  | .bk e s => .bk (e.set i none) s
  | .ct e s => .ct (e.set i none) s
  | .rt d s => .rt d s
  | _ => .bad
@[simp] theorem gone_nx (e : Env) (s : Sto) (i : Nat) : (SRes.nx e s).gone i = .nx (e.set i none) s := Eq.trans rfl rfl
@[simp] theorem gone_rt (d : D) (s : Sto) (i : Nat) : (SRes.rt d s).gone i = .rt d s := Eq.trans rfl rfl
open Classical in
noncomputable def asK (i : Nat) (su : Nat → SM) (e : Env) (s : Sto) : SRes := if ∀ a, (su a (e.set i (some (.adr a))) s).gone i = (su 0 (e.set i (some (.adr 0))) s).gone i then (su 0 (e.set i (some (.adr 0))) s).gone i else .bad
theorem asK_at {i : Nat} {su : Nat → SM} {e : Env} {s : Sto} {y : SRes} (h : ∀ a, (su a (e.set i (some (.adr a))) s).gone i = y) : asK i su e s = y := by
  unfold asK
  rw [if_pos (fun a => (h a).trans (h 0).symm), h 0]
/-- su c a: the suite's mirror for an exception of the class c at the place a -/
noncomputable def tryA (ids : List Nat) (sub : Nat → Bool) (i : Nat) (b : SM) (su : Nat → Nat → SM) : SM := tryS ids sub b fun c => asK i (su c)
theorem gone_ends {K : PySem.W.Frag} {ca : CA} {W : WX} {F : Hp} {r : List Addr} {G : Hp} {x : SRes} {i : Nat} {D : Ends} (h : PostS K ca W F r G (x.gone i) D) :
    PostS K ca (fun _ _ _ _ => False) F r G x { nx := fun σ' H' => D.nx (σ'.set i none) H', rt := D.rt, bk := fun σ' H' => D.bk (σ'.set i none) H', ct := fun σ' H' => D.ct (σ'.set i none) H' } := by
  cases x with
  | nx e s => exact fun F' r' H' σ' e' p' S' E' => h F' r' H' _ e' p' S' (E'.unset i none)
  | bk e s => exact fun F' r' H' σ' e' p' S' E' => h F' r' H' _ e' p' S' (E'.unset i none)
  | ct e s => exact fun F' r' H' σ' e' p' S' E' => h F' r' H' _ e' p' S' (E'.unset i none)
  | rt d s => exact h
  | er _ _ _ => exact h.elim
  | bad => exact h.elim
section
variable {X : Cx} {ca : CA} {W : WX} {body suite : List Stmt} {b₀ : Stmt} {np pos pos' : Pos} {x n : Str} {cc i : Nat} {ids : List Nat} {sub : Nat → Bool} {m : SM} {su : Nat → Nat → SM}
theorem ms_tryA (hs : X.stack = X.env :: X.outer) (hf : X.env.frame = some X.env.locals) (hN : X.N.Nodup) (hi : X.N[i]? = some n) (hln : X.env.kindOf n = some .local) (hc : Names X x (.ref (ca cc))) (tk : Takes X W) (hx : ∀ c ∈ ids, PySem.W.exmOne X.K (.ref (ca c)) (.ref (ca cc)) = some (sub c))
    (hb : ∀ (W : WX) (pn : List (Addr × Obj)) (xe : Value → Shared → Prop), Takes (X.tr pn xe) W → PassesOwn (model X.prog X.w) X.A X.env xe → MSs (X.tr pn xe) ca W body m)
    (hsu : ∀ (c : Nat) (a : Addr) (oe : Obj) (pn : List (Addr × Obj)), c ∈ ids → sub c = true → Zc (.ref (ca c)) none oe → (∃ vs, oe.data = .fields vs) → MSs (X.suite a ((a, oe) :: pn)) ca (fun _ _ _ _ => False) (b₀ :: suite) (su c a)) :
    MS X ca W (.Try body [.ExceptHandler (some (.Name x np)) (some n) (b₀ :: suite) pos'] [] [] pos) (tryA ids sub i m su) := by
  refine ⟨_, ps_try_as (i := i) (tb := fun W => starS X.K ca W m) (ts := fun a cls d => fun D σ H => ∃ c, c ∈ ids ∧ sub c = true ∧ cls = .ref (ca c) ∧ d = none ∧ starS X.K ca (fun _ _ _ _ => False) (su c a) D σ H) hs hf hN hi hln hc tk
    (fun W pn xe t1 t2 => (hb W pn xe t1 t2).star) (fun a oe cls d pn hz hv => ?_), fun F r G σ H env st D S E h => ?_⟩
  · refine ⟨fun pins s σ H D I ⟨c, h1, h4, h2, h3, q⟩ => ?_⟩
    subst h2 h3
    exact (hsu c a oe pn h1 h4 hz hv).star.run pins s σ H D I q
  · refine ⟨F, r, G, env, st, S, E, ?_⟩
    unfold tryA tryS at h
    cases z : m env st with
    | er q e s =>
      rw [z] at h
      intro F' r' H' σ' cls dx e' p' S' E' rx
      obtain ⟨qc, qa⟩ := q
      by_cases h1 : qa = none ∧ qc ∈ ids
      · obtain ⟨rfl, h2⟩ := h1
        replace h : PostS X.K ca W F r G (if (none : Option MX.D) = none ∧ qc ∈ ids then (if sub qc = true then (asK i (su qc) e s).calm else .er ⟨qc, none⟩ e s) else .bad) D := h
        rw [if_pos ⟨rfl, h2⟩] at h
        obtain ⟨rc, rd⟩ := rx
        have rd' : dx = none := rd
        subst rc rd'
        refine ⟨sub qc, hx qc h2, fun hb a na => ?_, fun hb => ?_⟩
        · rw [if_pos hb] at h
          have h3 := postS_calm (PostS.mono e' p' h)
          refine ⟨qc, h2, hb, rfl, rfl, F', r', G, e.set i (some (.adr a)), s, S', E'.set (.adr a) i, ?_⟩
          unfold asK at h3
          split at h3
          · rename_i hall
            rw [← hall a] at h3
            exact gone_ends h3
          · exact h3.elim
        · rw [if_neg (by rw [hb]; decide)] at h
          exact h F' r' H' σ' _ _ e' p' S' E' ⟨rfl, rfl⟩
      · replace h : PostS X.K ca W F r G (if qa = none ∧ qc ∈ ids then (if sub qc = true then (asK i (su qc) e s).calm else .er ⟨qc, qa⟩ e s) else .bad) D := h
        rw [if_neg h1] at h
        exact h.elim
    | nx e s => rw [z] at h; exact h
    | rt e s => rw [z] at h; exact h
    | bk e s => rw [z] at h; exact h
    | ct e s => rw [z] at h; exact h
    | bad => rw [z] at h; exact h.elim
end
end MX
namespace MX
open PySem L2 PyProof.Rows
/-! ### isinstance(e, ..) in the suite -/
/-- the exception at a, asked: the answer b -/
def isEM (a : Nat) (b : Bool) (f : EM) : EM := fun env st => (f env st).bind fun d s => match d with
  | .adr a' => if a' = a then .ok (.bl b) s else .bad
  | _ => .bad
def isEK (a : Nat) (b : Bool) : D → Env → Sto → Res D := fun d _ s => match d with
  | .adr a' => if a' = a then .ok (.bl b) s else .bad
  | _ => .bad
@[simp] theorem isEM_ap {a : Nat} {b : Bool} {f : EM} {env : Env} {st : Sto} : isEM a b f env st = (f env st).th (isEK a b) env := Eq.trans rfl rfl
@[simp] theorem isEK_ap {a : Nat} {b : Bool} {env : Env} {st : Sto} : isEK a b (.adr a) env st = .ok (.bl b) st := if_pos rfl
/-- names of classes in a tuple -/
inductive ClsNames (X : Cx) : List Expr → List Addr → Prop where
  | nil : ClsNames X [] []
  | cons {x : Str} {p : Pos} {es : List Expr} {C : Addr} {cs : List Addr} (hm : X.mg x = some (.ref C)) (hg : Gl X x) (hd : (x == ("__debug__" : Str)) = false) (hs : starEach (.Name x p :: es) X.env = (false, eval (.Name x p) X.env) :: starEach es X.env) (t : ClsNames X es cs) : ClsNames X (.Name x p :: es) (C :: cs)
theorem ClsNames.pa {X : Cx} : ∀ {es : List Expr} {cs : List Addr}, ClsNames X es cs → PA X es (fun σ H Q => Q (cs.map V.ref) H)
  | _, _, .nil => pa_nil
  | _, _, .cons hm hg hd hs t => pa_cons (pe_glob (v := .ref _) hg hm rfl hd) (ClsNames.pa t) hs
/-- isinstance(e, (c1, ..)), the tuple just laid -/
def rIsET (K : PySem.W.Frag) (D a : Addr) : List V → Hp → VK → Prop := fun xs H Q => ∃ (tp : Addr) (cs : List Addr) (b : Bool), xs = [.ref a, .ref tp] ∧ H tp = some (.tup (cs.map V.ref)) ∧ PySem.W.kitAny K (.ref D) (cs.map Value.ref) = some b ∧ Q (.bl b) H
theorem vals_refs2 : ∀ {cs : List Addr} {us : List Value}, Vals (cs.map V.ref) us → us = cs.map Value.ref
  | [], _, .nil => rfl
  | c :: cs, _, .cons h t => by
    have h' : _ = Value.ref c := h
    rw [List.map_cons, vals_refs2 t, h']
theorem call_isET {X : Cx} {a D : Addr} {oe : Obj} {pn : List (Addr × Obj)} (C : ExcC X.K D) (hz : Zc (.ref D) none oe) (hf : ∃ vs, oe.data = .fields vs) : CallR (X.suite a ((a, oe) :: pn)) (.builtin "isinstance") (rIsET X.K D a) := by
  intro pins s σ H xs us Q I r h
  obtain ⟨tp, cs, b, rfl, hT, e, q⟩ := h
  obtain ⟨u1, u2, rfl, r1, r2⟩ := vals2 r
  cases (show u2 = Value.ref tp from r2)
  cases (show u1 = Value.ref a from r1)
  obtain ⟨_, its, rv, o, h1, h2, n, h3⟩ := (show ObjOk X.prog X.w H s.heap tp (.tup (cs.map V.ref)) from I.hok tp _ hT)
  have e3 := vals_refs2 rv
  subst e3
  obtain ⟨oc, od, dt, sl⟩ := o
  simp only at h2 h3
  subst h2 h3
  obtain ⟨hget, _⟩ := I.pin (a, oe) (List.mem_append.mpr (.inl List.mem_cons_self))
  obtain ⟨vs, hv⟩ := hf
  have J : PySem.W.InstAt s.heap a oe D none := by
    obtain ⟨oc, od, oda, osl⟩ := oe
    obtain ⟨g1, g2⟩ := hz
    dsimp only at g1 g2 hv
    subst g1 g2 hv
    exact ⟨hget, rfl, rfl, trivial⟩
  exact PySem.W.kia_tup (PySem.W.handS_kitx_exc C.hg C.hk C.hs C.hd C.ha C.hn C.ht C.hm) I.kIn J h1 e (fun z => nomatch z) fun tk => ⟨.bl b, H, I.kept (t' := tk) fun _ _ z => z, rfl, q⟩
section
variable {X : Cx} {ca : CA} {W : WX} {e : Expr} {es : List Expr} {f : EM} {a : Addr} {oe : Obj} {pn : List (Addr × Obj)} {c : Nat} {p p1 pos p3 : Pos} {x : Str} {b : Bool} {j : Nat} {cs : List Addr}
theorem sim_isE {K : PySem.W.Frag} {ta : TE} {D : Addr} {cv : V} {u : Value} (hcv : ∀ v, RelV cv v → v = u) (hb : PySem.W.kitOne K (.ref D) u = some b) (a2 : SimE K ca W ta f) : SimE K ca W (tCB (rIsE K D a) (tCons ta (tCons (tC cv) tNil))) (isEM a b f) := fun F r G σ H env st Q S E h => by
  refine a2 F r G σ H env st _ S E (Post.imp (Post.bind h) fun F1 r1 H1 s1 d e1 p1 S1 k1 v rv => ?_)
  cases rv with
  | adr a' =>
    by_cases ea : a' = a
    · subst ea
      simp only [if_true] at k1
      exact ⟨cv, u, b, rfl, hcv, hb, k1 F1 r1 H1 (Evl.Ex.refl _) (List.prefix_refl _) S1 _ (.bl _)⟩
    · simp only [if_neg ea] at k1
      exact k1.elim
  | _ => exact k1.elim
/-- isinstance(e, C), C a class of the text -/
theorem me_isE {C : Addr} (k : ExcC X.K (ca c)) (hz : Zc (.ref (ca c)) none oe) (hf : ∃ vs, oe.data = .fields vs) (hb : PySem.W.kitOne X.K (.ref (ca c)) (.ref C) = some b) (hm : X.mg "isinstance" = none) (hx : X.mg x = some (.ref C)) (he : ME (X.suite a ((a, oe) :: pn)) ca W e f)
    (hg : Gl X "isinstance" := by rfl) (hgx : Gl X x := by rfl) (hdb : (x == ("__debug__" : Str)) = false := by decide)
    (h1 : starEach [e, .Name x p1] X.env = (false, eval e X.env) :: starEach [.Name x p1] X.env := by rfl) (h2 : starEach [.Name x p1] X.env = (false, eval (.Name x p1) X.env) :: starEach [] X.env := by rfl)
    (hpl : (backTo pos (starEach [.Name x p1] X.env)).any (·.1) = false := by rfl) : ME (X.suite a ((a, oe) :: pn)) ca W (.Call (.Name "isinstance" p) [e, .Name x p1] [] pos) (isEM a b f) := by
  obtain ⟨ta, a1, a2⟩ := he
  exact ⟨_, pe_callB (call_isE k hz hf) hg hm (by decide +kernel) (pa_cons a1 (pa_cons (pe_glob (v := .ref C) hgx hx rfl hdb) pa_nil h2) h1) (by decide) (by decide) h1 hpl, sim_isE (fun v hv => hv) hb a2⟩
/-- isinstance(e, T), T a built-in type -/
theorem me_isEB {T : String} (k : ExcC X.K (ca c)) (hz : Zc (.ref (ca c)) none oe) (hf : ∃ vs, oe.data = .fields vs) (hb : PySem.W.kitOne X.K (.ref (ca c)) (.type T) = some b) (hm : X.mg "isinstance" = none) (hx : X.mg x = none) (he : ME (X.suite a ((a, oe) :: pn)) ca W e f) (hv : bootBuiltins x = some (.type T) := by decide +kernel)
    (hg : Gl X "isinstance" := by rfl) (hgx : Gl X x := by rfl) (hn : x ≠ "__name__" := by decide) (hdb : (x == ("__debug__" : Str)) = false := by decide)
    (h1 : starEach [e, .Name x p1] X.env = (false, eval e X.env) :: starEach [.Name x p1] X.env := by rfl) (h2 : starEach [.Name x p1] X.env = (false, eval (.Name x p1) X.env) :: starEach [] X.env := by rfl)
    (hpl : (backTo pos (starEach [.Name x p1] X.env)).any (·.1) = false := by rfl) : ME (X.suite a ((a, oe) :: pn)) ca W (.Call (.Name "isinstance" p) [e, .Name x p1] [] pos) (isEM a b f) := by
  obtain ⟨ta, a1, a2⟩ := he
  exact ⟨_, pe_callB (call_isE k hz hf) hg hm (by decide +kernel) (pa_cons a1 (pa_cons (pe_bltn (v := .ty T) hgx hx hv rfl hn hdb) pa_nil h2) h1) (by decide) (by decide) h1 hpl, sim_isE (fun v hv => hv) hb a2⟩
/-- isinstance(e, (C1, ..)) -/
theorem me_isET (k : ExcC X.K (ca c)) (hz : Zc (.ref (ca c)) none oe) (hf : ∃ vs, oe.data = .fields vs) (hb : PySem.W.kitAny X.K (.ref (ca c)) (cs.map Value.ref) = some b) (hm : X.mg "isinstance" = none) (hcs : ClsNames (X.suite a ((a, oe) :: pn)) es cs) (hl : cs.length ≤ LIM) (he : ME (X.suite a ((a, oe) :: pn)) ca W e f)
    (hg : Gl X "isinstance" := by rfl)
    (h1 : starEach [e, .Tuple es j p3] X.env = (false, eval e X.env) :: starEach [.Tuple es j p3] X.env := by rfl) (h2 : starEach [.Tuple es j p3] X.env = (false, eval (.Tuple es j p3) X.env) :: starEach [] X.env := by rfl)
    (hpl : (backTo pos (starEach [.Tuple es j p3] X.env)).any (·.1) = false := by rfl) : ME (X.suite a ((a, oe) :: pn)) ca W (.Call (.Name "isinstance" p) [e, .Tuple es j p3] [] pos) (isEM a b f) := by
  obtain ⟨ta, a1, a2⟩ := he
  refine ⟨_, pe_callB (call_isET k hz hf) hg hm (by decide +kernel) (pa_cons a1 (pa_cons (pe_tup hcs.pa) pa_nil h2) h1) (by decide) (by decide) h1 hpl, fun F r G σ H env st Q S E h => ?_⟩
  refine a2 F r G σ H env st _ S E (Post.imp (Post.bind h) fun F1 r1 H1 s1 d e1 p1 S1 k1 v rv => ?_)
  cases rv with
  | adr a' =>
    by_cases ea : a' = a
    · subst ea
      simp only [if_true] at k1
      exact ⟨lim_sz (by rw [List.length_map]; exact hl), fun p hp => ⟨p, cs, b, rfl, upd_same, hb, k1 (upd F1 p (.tup (cs.map V.ref))) r1 _ (Evl.Ex.new (S1.fresh_F hp)) (List.prefix_refl _) (S1.newF hp) _ (.bl _)⟩⟩
    · simp only [if_neg ea] at k1
      exact k1.elim
  | _ => exact k1.elim
end
end MX
namespace MX
open PySem L2 PyProof.Rows
/-! ### o.m(k=e), which may raise -/
def tMethKwX (C : Addr) (nm : Str) (n : Nat) (sp : Sp) (E : L2.St → XK) (ta : TE) (tk : TA) : TE := fun σ H Q => ta σ H fun x H1 => ∃ a dx fs, x = .ref a ∧ H1 a = some (.ins C dx fs) ∧ fs.lookup nm = none ∧ tk σ H1 fun zs H2 => zs.length = n ∧ sp (.ref a :: zs) H2 Q (E σ)
section
variable {X : Cx} {CX : CXT} {k : Nat} {f C : Addr} {fd : FuncData} {ps ks : List Str} {sp : Sp} {E : L2.St → XK} {m : Str} {apos pos : Pos} {o : Expr} {kws : List Keyword} {ta : TE} {tk : TA}
theorem pe_methKwX {pl : Sem Bool} (he : PE X o ta) (c : Cls X.K C) (hm : Meth X.K C m f) (F : FnOk X.prog X.w X.K X.mg X.base CX k f fd ps sp) (hr : Room k X.A) (hb : KBn X.K fd ps 1 ks (fun us ws => us ++ ws) (fun vs zs => vs ++ zs)) (hx : ∀ σ, PassesAt CX X σ (E σ)) (hk : PK X kws tk)
    (ht : eval (.Call (.Attribute o m apos) [] kws pos) X.env = (do
      let ov ← eval o X.env
      standAt apos.atName
      let (f, first) ← holding [ov] (getMethod ov m pl)
      callWith pos f first (backTo pos (starEach [] X.env)) (backToKw pos (keywordEach kws X.env))))
    (hall : (backToKw pos (keywordEach kws X.env)).all (·.1.isSome) = true) (hks : (backToKw pos (keywordEach kws X.env)).filterMap (·.1) = ks)
    (hpl : ((backTo pos (starEach [] X.env)).any (·.1) || (backToKw pos (keywordEach kws X.env)).any (·.1.isNone)) = false) :
    PE X (.Call (.Attribute o m apos) [] kws pos) (tMethKwX C m ks.length sp E ta tk) := by
  refine ⟨fun pins s σ H Q I h => ?_⟩
  refine PySem.W.methodCall_KW (pl := pl) (thn (he.run pins s σ H _ I h) fun u s1 ⟨x, H1, I1, rx, a, dx, fs, ex, ea, l, q⟩ => ?_) ht
  subst ex
  obtain rfl : u = Value.ref a := rx
  refine getmeth_ok I1 ea c hm l ?_
  refine PySem.W.callWith_KW0 (first := [.ref a]) (h₀ := X.base) I.ok.mod.kin hm.kp hall (thn (hk.run pos pins s1 σ H1 _ I1 q) fun ws s2 ⟨zs, H2, I2, rz, l2, q2⟩ => ⟨I2.kIn, ?_⟩) hpl
  rw [hks]
  have r2 := hb.rel (vs := [.ref a]) (us := [.ref a]) (.cons rfl .nil) rz
  refine wpAny_call (codeAny_mono (F.run X.A X.stack s2 H2 ⟨[.ref a], ks.zip ws⟩ _ _ Q (E σ) hr I2.env0 (hb.to s2 [.ref a] ws I2.kIn rfl (rz.length.symm.trans l2)) r2 q2) fun r s' hq => ?_)
  cases r with
  | error e => exact hx σ pins H2 s2 e s' I2 hq
  | ok fl =>
    cases fl with
    | ret u => exact I2.after hq
    | next => exact False.elim hq
    | brk => exact False.elim hq
    | cont => exact False.elim hq
end
section
variable {X : Cx} {ca : CA} {W : WX} {o e : Expr} {f fo : EM} {apos pos kp : Pos} {k : Nat} {fa : Addr} {fd : FuncData} {m : FM} {x kn : Str} {c : Nat}
theorem me_methKwX {p0 : Str} {pl : Sem Bool} (hc : Cls X.K (ca c)) (hmt : Meth X.K (ca c) x fa) (hx : x ∉ lay c) (F : FkX X ca k fa fd [p0, kn] m) (tk : Takes X W) (hr : Room k X.A) (hb : KBn X.K fd [p0, kn] 1 [kn] (fun us ws => us ++ ws) (fun vs zs => vs ++ zs))
    (ho : ME X ca W o fo) (ha : ME X ca W e f)
    (ht : eval (.Call (.Attribute o x apos) [] [⟨some kn, e, kp⟩] pos) X.env = (do
      let ov ← eval o X.env
      standAt apos.atName
      let (f, first) ← holding [ov] (getMethod ov x pl)
      callWith pos f first (backTo pos (starEach [] X.env)) (backToKw pos (keywordEach [⟨some kn, e, kp⟩] X.env))) := by rfl)
    (hall : (backToKw pos (keywordEach [⟨some kn, e, kp⟩] X.env)).all (·.1.isSome) = true := by rfl) (hks : (backToKw pos (keywordEach [⟨some kn, e, kp⟩] X.env)).filterMap (·.1) = [kn] := by rfl)
    (hpl : ((backTo pos (starEach [] X.env)).any (·.1) || (backToKw pos (keywordEach [⟨some kn, e, kp⟩] X.env)).any (·.1.isNone)) = false := by rfl) :
    ME X ca W (.Call (.Attribute o x apos) [] [⟨some kn, e, kp⟩] pos) (mthM c m fo (consA f nilA)) := by
  obtain ⟨to, b1, b2⟩ := ho
  obtain ⟨ta, a1, a2⟩ := ha
  refine ⟨_, pe_methKwX b1 hc hmt F hr hb (fun σ => passAt tk σ) (pk_cons a1 pk_nil) ht hall hks hpl, fun F r G σ H env st Q S E h => ?_⟩
  refine b2 F r G σ H env st _ S E (Post.imp (Post.bind h) fun F1 r1 H1 s1 d e1 p1 S1 h1 v rv => ?_)
  cases z : objD d s1 with
  | none => simp only [z] at h1; exact h1.elim
  | some cd =>
    obtain ⟨c', ds0⟩ := cd
    simp only [z] at h1
    by_cases ec : c' = c
    · rw [if_pos ec] at h1
      subst ec
      obtain ⟨a, dx, xs, rfl, g1, g2, q⟩ := objD_at S1 rv z
      refine ⟨a, dx, _, rfl, g1, zip_none hx _, ?_⟩
      refine a2 F1 r1 G σ H1 env s1 _ S1 (E.mono e1 p1) (Post.imp (Post.bind (Post.bind h1)) fun F2 r2 H2 s2 d2 e2 p2 S2 h2 v2 rv2 => ?_)
      refine ⟨rfl, ?_⟩
      have r3 := RVs.cons (rv.mono e2 p2) (RVs.cons rv2 .nil)
      exact spx_of S2 r3 rfl (h2 F2 r2 H2 (Evl.Ex.refl _) (List.prefix_refl _) S2)
    · rw [if_neg ec] at h1; exact h1.elim
end
end MX
set_option maxHeartbeats 1000000
/-! MX, part 14: facts about exceptions' classes. -/
namespace MX
open PySem L2 PyProof.Rows
theorem exm_of {K : PySem.W.Frag} {S T : Addr} {b : Bool} (h1 : PySem.W.subIn K (.ref S) (.type "BaseException") = some true) (h2 : PySem.W.isClsIn K S = true) (h3 : PySem.W.typeIn K (.ref S) = some (.type "type")) (h4 : PySem.W.subIn K (.ref T) (.ref S) = some b) : PySem.W.exmOne K (.ref T) (.ref S) = some b := by
  have h5 : (PySem.W.clsIn K S).isSome = true := h2
  unfold PySem.W.exmOne
  rw [h1, if_pos (by decide)]
  show (if ((PySem.W.clsIn K S).isSome && PySem.W.typeIn K (.ref S) == some (.type "type")) = true then PySem.W.subIn K (.ref T) (.ref S) else none) = some b
  rw [h5, h3, if_pos (by decide)]
  exact h4
theorem kitAny_no {K : PySem.W.Frag} {t : Value} : ∀ {cs : List Addr}, (∀ c ∈ cs, PySem.W.kitOne K t (.ref c) = some false) → PySem.W.kitAny K t (cs.map Value.ref) = some false
  | [], _ => rfl
  | c :: cs, h => kitAny_cons (h c List.mem_cons_self) (fun _ => kitAny_no fun x hx => h x (List.mem_cons_of_mem _ hx)) (fun z => nomatch z)
/-- an empty dict, owned -/
def dicM : EM := fun _ st => .ok (.own st.length) (st ++ [.dic []])
@[simp] theorem dicM_ap (env : Env) (st : Sto) : dicM env st = .ok (.own st.length) (st ++ [.dic []]) := Eq.trans rfl rfl
theorem me_dic0 {X : Cx} {ca : CA} {W : WX} {pos : Pos} : ME X ca W (.Dict [] [] pos) dicM := by
  refine ⟨_, pe_dnewK, fun F r G σ H env st Q S E h => fun p hp => ?_⟩
  have S1 := S.upd (.dK []) (S.free hp)
  refine h F (r ++ [p]) _ (Evl.Ex.refl _) (List.prefix_append _ _) (S1.owned (S.free hp) upd_same ⟨(S.free hp).f, [], rfl, rfl, .nil⟩) _ (.own ?_)
  rw [List.getElem?_append_right (by rw [S.len]; exact Nat.le_refl _), S.len]
  simp
end MX
set_option maxHeartbeats 1000000
/-! MX, part 15: running mirrors that raise. -/
namespace MX
open PySem L2
@[simp] theorem raiseS_at {c : Nat} {env : MX.Env} {st : Sto} : raiseS c env st = .er ⟨c, none⟩ env st := Eq.trans rfl rfl
section
variable {m : SM} {n c : Nat} {ds : List D} {st : Sto} {d : D}
theorem fnX_ap : fnX n m ds st = (m (envOf n ds) st).ret := rfl
theorem fnXC_ok {s2 : Sto} (h : (m (envOf n ds) st).ret = .ok d s2) (hc : d.clo st.length = true) (ht : tame st s2) : fnXC n m ds st = .ok d (s2.take st.length) := by
  unfold fnXC fnX cutR
  rw [h]
  exact if_pos ⟨hc, ht⟩
theorem fnXC_pure {t : Sto} (h : (m (envOf n ds) st).ret = .ok d (st ++ t)) (hc : d.clo st.length = true) : fnXC n m ds st = .ok d st := by
  rw [fnXC_ok h hc (tame_app st t), List.take_left]
theorem fnXC_same (h : (m (envOf n ds) st).ret = .ok d st) (hc : d.clo st.length = true) : fnXC n m ds st = .ok d st := by
  rw [fnXC_ok h hc (tame_refl st), List.take_length]
theorem fnXC_er (h : (m (envOf n ds) st).ret = .er ⟨c, none⟩ st) : fnXC n m ds st = .er ⟨c, none⟩ st := by
  unfold fnXC fnX cutR
  rw [h]
  refine (if_pos ⟨rfl, tame_refl st⟩).trans ?_
  rw [List.take_length]
theorem fnXC_set {k : Nat} {t : Sto} {mo mo' : MO} (h : (m (envOf n ds) st).ret = .ok d (st.set k mo' ++ t)) (hk : st[k]? = some mo) (hs : tame st (st.set k mo')) (hc : d.clo st.length = true) : fnXC n m ds st = .ok d (st.set k mo') := by
  have hl : (st.set k mo').length = st.length := List.length_set
  rw [fnXC_ok h hc ⟨by rw [List.length_append, hl]; omega, fun j hj => ?_⟩]
  · rw [← hl, List.take_left]
  · rw [List.getElem?_append_left (by rw [hl]; exact hj)]
    exact hs.2 j hj
end
end MX
set_option maxHeartbeats 4000000
namespace G
open PySem L2 MX
abbrev CS : List Nat := [0, 1, 2, 3, 4, 5]
noncomputable def b_liveday_init : SM := (seqS (setFldS 5 0 (vM 0) (vM 1))
 (setFldS 5 1 (vM 0) (ownM (lstM (consA (tupM (consA (frzM (lstM nilA)) (consA (frzM (lstM nilA)) (consA (frzM (lstM nilA)) (consA (unM negI (cM (.int 1))) (consA (cM (.int 0)) nilA)))))) nilA)))))
noncomputable def m_liveday_init : FM := fn0 2 b_liveday_init
theorem ne_liveday_init : NoE m_liveday_init := noE_fn0 _ _
noncomputable def b_law_came : SM := (seqS (asgS (vM 0) (tupG 5 (consG (nmG 2) (consG (nmG 3) (consG (nmG 4) (consG (nmG 5) (consG (nmG 6) nilG)))))))
 (retS (tupM (consA (frzM (catM (vM 2) (frzM (lstM (consA (tupM (consA (callC lenD (consA (vM 3) nilA)) (consA (vM 1) nilA))) nilA))))) (consA (vM 3) (consA (frzM (catM (vM 4) (frzM (lstM (consA (vM 1) nilA))))) (consA (vM 5) (consA (vM 6) nilA))))))))
noncomputable def m_law_came : FM := fnC 7 b_law_came
theorem ne_law_came : NoE m_law_came := noE_fnC _ _
noncomputable def b_law_pick : SM := (seqS (ifS (blM (opM gtI (opM ixD (vM 0) (cM (.int 0))) (cM (.int 0)))) (seqS (setS 2 (opM ixD (vM 0) (cM (.int 0))))
 (seqS (setIxS (opM divI (vM 2) (vM 1)) (vM 0) (cM (.int 0)))
 (retS (opM modI (callC intD (consA (vM 2) nilA)) (vM 1))))) nxS)
 (seqS (setIxS (opM addD (opM ixD (vM 0) (cM (.int 2))) (cM (.int 1))) (vM 0) (cM (.int 2)))
 (seqS (setS 3 (opM addD (opM ixD (vM 0) (cM (.int 1))) (opM mulD (cM (.int 32416190071)) (opM ixD (vM 0) (cM (.int 2))))))
 (seqS (setS 4 (opM modI (callC intD (consA (opM mulD (opM mulD (vM 3) (vM 3)) (opM addD (opM ixD (vM 0) (cM (.int 1))) (opM mulD (cM (.int 7)) (opM ixD (vM 0) (cM (.int 2)))))) nilA)) (opM addD (opM powI (cM (.int 10)) (cM (.int 29))) (cM (.int 319)))))
 (seqS (setS 5 (opM modI (callC intD (consA (opM addD (opM mulD (vM 4) (vM 4)) (opM mulD (cM (.int 67867979)) (opM ixD (vM 0) (cM (.int 2))))) nilA)) (opM addD (opM powI (cM (.int 10)) (cM (.int 28))) (cM (.int 331)))))
 (retS (opM modI (callC intD (consA (opM divI (vM 5) (cM (.int 982451))) nilA)) (vM 1))))))))
noncomputable def m_law_pick : FM := fnC 6 b_law_pick
theorem ne_law_pick : NoE m_law_pick := noE_fnC _ _
noncomputable def b_law_rule : SM := (seqS (ifS (blM (opM eqD (vM 0) (cM (.str "shortest")))) (retS (cM (.obj 1 []))) nxS)
 (seqS (ifS (blM (opM eqD (vM 0) (cM (.str "first")))) (retS (cM (.obj 2 []))) nxS)
 (seqS (ifS (blM (opM eqD (vM 0) (cM (.str "longest")))) (retS (cM (.obj 3 []))) nxS)
 (retS (cM (.obj 4 []))))))
noncomputable def m_law_rule : FM := fnC 1 b_law_rule
theorem ne_law_rule : NoE m_law_rule := noE_fnC _ _
noncomputable def b_liveday_plan : SM := (retS (ownM (callL listD (consA (opM ixD (opM ixD (fldM 5 1 (vM 0)) (unM negI (cM (.int 1)))) (cM (.int 1))) nilA))))
noncomputable def m_liveday_plan : FM := fn0 1 b_liveday_plan
theorem ne_liveday_plan : NoE m_liveday_plan := noE_fn0 _ _
noncomputable def b_law_is_int : SM := (retS (andV (isiM CS .int (vM 0)) (notV (isiM CS .bl (vM 0)))))
noncomputable def m_law_is_int : FM := fnC 1 b_law_is_int
theorem ne_law_is_int : NoE m_law_is_int := noE_fnC _ _
noncomputable def b_law_same_ticks : SM := (seqS (ifS (orM (notM (blM (isiM CS .lst (vM 0)))) (blM (opM neD (vM 0) (vM 1)))) (retS (cM (.bl false))) nxS)
 (retS (opM eqD (frzM (lcML (itLL (vM 0)) (nmG 2) (andM (blM (opM notN (vM 2) (cM .non))) (notM (blM (callM m_law_is_int (argM 1 [] (consA (vM 2) nilA)))))) (vM 2) [2])) (frzM (lstM nilA)))))
noncomputable def m_law_same_ticks : FM := fnC 3 b_law_same_ticks
theorem ne_law_same_ticks : NoE m_law_same_ticks := noE_fnC _ _
noncomputable def b_liveday_comings : SM := (retS (ownM (callL listD (consA (opM ixD (opM ixD (fldM 5 1 (vM 0)) (unM negI (cM (.int 1)))) (cM (.int 0))) nilA))))
noncomputable def m_liveday_comings : FM := fn0 1 b_liveday_comings
theorem ne_liveday_comings : NoE m_liveday_comings := noE_fn0 _ _
noncomputable def l_law_is_comings_1 : SM := (ifS (orM (notM (blM (isiM CS .tup (vM 2)))) (orM (notM (blM (callM m_law_is_int (argM 1 [] (consA (opM ixD (vM 2) (cM (.int 0))) nilA))))) (notM (blM (callM m_law_is_int (argM 1 [] (consA (opM ixD (vM 2) (cM (.int 1))) nilA))))))) (retS (cM (.bl false))) nxS)
noncomputable def b_law_is_comings : SM := (seqS (ifS (orM (notM (blM (isiM CS .lst (vM 0)))) (blM (opM neD (vM 0) (vM 1)))) (retS (cM (.bl false))) nxS)
 (seqS (forSL (itLL (vM 0)) (nmG 2) l_law_is_comings_1)
 (retS (cM (.bl true)))))
noncomputable def m_law_is_comings : FM := fnC 3 b_law_is_comings
theorem ne_law_is_comings : NoE m_law_is_comings := noE_fnC _ _
noncomputable def b_is_integer : SM := (retS (andV (isiM CS .int (vM 0)) (notV (isiM CS .bl (vM 0)))))
noncomputable def m_is_integer : FM := fnC 1 b_is_integer
theorem ne_is_integer : NoE m_is_integer := noE_fnC _ _
noncomputable def l_row_init_1 : SM := (ifS (orM (notM (blM (callM m_is_integer (argM 1 [] (consA (vM 2) nilA))))) (blM (opM ltI (vM 2) (cM (.int 1))))) badS nxS)
noncomputable def b_row_init : SM := (seqS (ifS (notM (blM (isiM CS .lst (vM 1)))) badS nxS)
 (seqS (forS (itL (vM 1)) (nmG 2) l_row_init_1)
 (setFldS 0 0 (vM 0) (frzM (sortRM (consA (vM 1) nilA))))))
noncomputable def m_row_init : FM := fnC 3 b_row_init
theorem ne_row_init : NoE m_row_init := noE_fnC _ _
noncomputable def b_liveday_row : SM := (retS (nwzM 0 m_row_init (argM 1 [] (consA (frzM (lcM (itL (opM ixD (opM ixD (fldM 5 1 (vM 0)) (unM negI (cM (.int 1)))) (cM (.int 2)))) (nmG 1) (blM (opM gtI (vM 1) (cM (.int 0)))) (vM 1) [1])) nilA))))
noncomputable def m_liveday_row : FM := fnC 2 b_liveday_row
theorem ne_liveday_row : NoE m_liveday_row := noE_fnC _ _
noncomputable def b_row_parts : SM := (retS (ownM (callL listD (consA (fldM 0 0 (vM 0)) nilA))))
noncomputable def m_row_parts : FM := fn0 1 b_row_parts
theorem ne_row_parts : NoE m_row_parts := noE_fn0 _ _
noncomputable def b_liveday_len : SM := (retS (callC lenD (consA (frzM (slM (fldM 5 1 (vM 0)) (someO (cM (.int 1))) noO)) nilA)))
noncomputable def m_liveday_len : FM := fnC 1 b_liveday_len
theorem ne_liveday_len : NoE m_liveday_len := noE_fnC _ _
noncomputable def b_liveday_minute : SM := (retS (callC lenD (consA (opM ixD (opM ixD (fldM 5 1 (vM 0)) (unM negI (cM (.int 1)))) (cM (.int 1))) nilA)))
noncomputable def m_liveday_minute : FM := fnC 1 b_liveday_minute
theorem ne_liveday_minute : NoE m_liveday_minute := noE_fnC _ _
noncomputable def b_liveday_waiting : SM := (retS (opM ixD (opM ixD (fldM 5 1 (vM 0)) (unM negI (cM (.int 1)))) (cM (.int 4))))
noncomputable def m_liveday_waiting : FM := fnC 1 b_liveday_waiting
theorem ne_liveday_waiting : NoE m_liveday_waiting := noE_fnC _ _
noncomputable def b_law_tells : SM := (seqS (ifS (blM (opM eqD (vM 3) (cM (.int 0)))) (retS (andV (callM m_law_is_int (argM 1 [] (consA (lenOM 5 m_liveday_len (vM 0)) nilA))) (opM eqD (lenOM 5 m_liveday_len (vM 0)) (vM 2)))) nxS)
 (seqS (ifS (blM (opM eqD (vM 3) (cM (.int 1)))) (retS (andV (callM m_law_is_int (argM 1 [] (consA (prpM 5 m_liveday_minute (vM 0)) nilA))) (opM eqD (prpM 5 m_liveday_minute (vM 0)) (callC lenD (consA (opM ixD (vM 1) (cM (.int 1))) nilA))))) nxS)
 (seqS (ifS (blM (opM eqD (vM 3) (cM (.int 2)))) (retS (andV (callM m_law_is_int (argM 1 [] (consA (prpM 5 m_liveday_waiting (vM 0)) nilA))) (opM eqD (prpM 5 m_liveday_waiting (vM 0)) (opM ixD (vM 1) (cM (.int 4)))))) nxS)
 (seqS (ifS (blM (opM eqD (vM 3) (cM (.int 3)))) (seqS (setS 4 (prpM 5 m_liveday_plan (vM 0)))
 (setS 5 (callM m_law_same_ticks (argM 2 [] (consA (vM 4) (consA (opM ixD (vM 1) (cM (.int 1))) nilA)))))) (ifS (blM (opM eqD (vM 3) (cM (.int 4)))) (seqS (setS 4 (prpM 5 m_liveday_comings (vM 0)))
 (setS 5 (callM m_law_is_comings (argM 2 [] (consA (vM 4) (consA (opM ixD (vM 1) (cM (.int 0))) nilA)))))) (seqS (setS 6 (prpM 5 m_liveday_row (vM 0)))
 (seqS (ifS (notM (blM (isiM CS (.cls 0) (vM 6)))) (retS (cM (.bl false))) nxS)
 (seqS (setS 4 (prpM 0 m_row_parts (vM 6)))
 (setS 5 (callM m_law_same_ticks (argM 2 [] (consA (vM 4) (consA (frzM (sortRM (consA (frzM (lcM (itL (opM ixD (vM 1) (cM (.int 2)))) (nmG 7) (blM (opM gtI (vM 7) (cM (.int 0)))) (vM 7) [7])) nilA))) nilA))))))))))
 (seqS (ifS (blM (vM 5)) (seqS (dropS (methC tyL rvsD (vM 4) nilA))
 (dropS (methC tyL appD (vM 4) (consA (cM (.int 0)) nilA)))) nxS)
 (retS (vM 5)))))))
noncomputable def m_law_tells : FM := fnC 8 b_law_tells
theorem ne_law_tells : NoE m_law_tells := noE_fnC _ _
noncomputable def l_law_shows_1 : SM := (ifS (notM (blM (callM m_law_tells (argM 4 [] (consA (vM 0) (consA (vM 1) (consA (vM 2) (consA (vM 5) nilA)))))))) (retS (cM (.bl false))) nxS)
noncomputable def b_law_shows : SM := (seqS (setS 4 (ownM (catM (frzM (lrgM (cM (.int 6)))) (frzM (lrgM (cM (.int 6)))))))
 (seqS (ifS (blM (opM gtI (vM 3) (cM (.int 5)))) (dropS (methC tyL rvsD (vM 4) nilA)) nxS)
 (seqS (forS (itL (frzM (slM (vM 4) (someO (opM divI (vM 3) (cM (.int 2)))) noO))) (nmG 5) l_law_shows_1)
 (retS (cM (.bl true))))))
noncomputable def m_law_shows : FM := fnC 6 b_law_shows
theorem ne_law_shows : NoE m_law_shows := noE_fnC _ _
noncomputable def b_law_next : SM := (seqS (setS 3 (frzM (lcM (rgM (consA (callC lenD (consA (vM 1) nilA)) nilA)) (nmG 4) (blM (opM gtI (opM ixD (vM 1) (vM 4)) (cM (.int 0)))) (vM 4) [4])))
 (seqS (ifS (blM (opM eqD (vM 3) (frzM (lstM nilA)))) (retS (cM .non)) nxS)
 (seqS (ifS (blM (opM eqD (vM 0) (cM (.str "turns")))) (retS (opM ixD (frzM (catM (frzM (lcM (itL (vM 3)) (nmG 4) (blM (opM gtI (vM 4) (vM 2))) (vM 4) [4])) (vM 3))) (cM (.int 0)))) nxS)
 (seqS (ifS (blM (opM eqD (vM 0) (cM (.str "first")))) (retS (opM ixD (vM 3) (cM (.int 0)))) nxS)
 (seqS (setS 5 (frzM (lcM (itL (vM 3)) (nmG 4) yesM (opM ixD (vM 1) (vM 4)) [4])))
 (retS (opM ixD (vM 3) (methC tyL indD (vM 5) (consA (opM ixD (frzM (lstM (consA (callC minD (consA (vM 5) nilA)) (consA (callC maxD (consA (vM 5) nilA)) nilA)))) (callC intD (consA (opM eqD (vM 0) (cM (.str "longest"))) nilA))) nilA)))))))))
noncomputable def m_law_next : FM := fnC 6 b_law_next
theorem ne_law_next : NoE m_law_next := noE_fnC _ _
noncomputable def b_law_passed : SM := (seqS (asgS (vM 1) (tupG 5 (consG (nmG 2) (consG (nmG 3) (consG (nmG 4) (consG (nmG 5) (consG (nmG 6) nilG)))))))
 (seqS (setS 7 (callM m_law_next (argM 3 [] (consA (vM 0) (consA (vM 4) (consA (vM 5) nilA))))))
 (seqS (setS 8 (callC lenD (consA (frzM (lcM (itL (vM 4)) (nmG 9) (blM (opM gtI (vM 9) (cM (.int 0)))) (vM 9) [9])) nilA)))
 (seqS (ifS (blM (opM notN (vM 7) (cM .non))) (seqS (setS 4 (frzM (catM (frzM (catM (frzM (slM (vM 4) noO (someO (vM 7)))) (frzM (lstM (consA (opM subI (opM ixD (vM 4) (vM 7)) (cM (.int 1))) nilA))))) (frzM (slM (vM 4) (someO (opM addD (vM 7) (cM (.int 1)))) noO)))))
 (setS 5 (vM 7))) nxS)
 (retS (tupM (consA (vM 2) (consA (frzM (catM (vM 3) (frzM (lstM (consA (vM 7) nilA))))) (consA (vM 4) (consA (vM 5) (consA (opM addD (vM 6) (vM 8)) nilA)))))))))))
noncomputable def m_law_passed : FM := fnC 10 b_law_passed
theorem ne_law_passed : NoE m_law_passed := noE_fnC _ _
noncomputable def b_liveday_come : SM := (seqS (ifS (orM (notM (blM (isiM CS .int (vM 1)))) (orM (blM (isiM CS .bl (vM 1))) (blM (opM ltI (vM 1) (cM (.int 1)))))) (raiseS 14) nxS)
 (seqS (asgS (opM ixD (fldM 5 1 (vM 0)) (unM negI (cM (.int 1)))) (tupG 5 (consG (nmG 2) (consG (nmG 3) (consG (nmG 4) (consG (nmG 5) (consG (nmG 6) nilG)))))))
 (seqS (dropS (methC tyL appD (fldM 5 1 (vM 0)) (consA (tupM (consA (frzM (catM (vM 2) (frzM (lstM (consA (tupM (consA (callC lenD (consA (vM 3) nilA)) (consA (vM 1) nilA))) nilA))))) (consA (vM 3) (consA (frzM (catM (vM 4) (frzM (lstM (consA (vM 1) nilA))))) (consA (vM 5) (consA (vM 6) nilA)))))) nilA)))
 (retS (callC lenD (consA (vM 2) nilA))))))
noncomputable def m_liveday_come : FM := fnXC 7 b_liveday_come
noncomputable def b_liveday_back : SM := (seqS (ifS (blM (opM geI (vM 1) (callC lenD (consA (fldM 5 1 (vM 0)) nilA)))) badS nxS)
 (setFldS 5 1 (vM 0) (ownM (slM (fldM 5 1 (vM 0)) noO (someO (opM subI (callC lenD (consA (fldM 5 1 (vM 0)) nilA)) (vM 1)))))))
noncomputable def m_liveday_back : FM := fn0 2 b_liveday_back
theorem ne_liveday_back : NoE m_liveday_back := noE_fn0 _ _
noncomputable def b_law_refused : SM := (seqS (asgS (tupM (consA (cM (.bl false)) (consA (ownM (lstM nilA)) nilA))) (tupG 2 (consG (nmG 2) (consG (nmG 3) nilG))))
 (seqS (tryA [14] (fun c => decide (c = 14)) 4 (dropS (mthM 5 m_liveday_come (vM 0) (argM 1 [] (consA (vM 1) nilA)))) (fun c a => (seqS (setS 2 (andV (isEM a true (vM 4)) (isEM a true (vM 4))))
 (seqS (setS 3 (ownM (lstM (consA (isEM a false (vM 4)) nilA))))
 (seqS (dropS (methC tyL appD (vM 3) (consA (isEM a false (vM 4)) nilA)))
 (dropS (methC tyL appD (vM 3) (consA (isEM a false (vM 4)) nilA))))))))
 (retS (andV (vM 2) (opM (inD true) (cM (.bl true)) (vM 3))))))
noncomputable def m_law_refused : FM := fnC 5 b_law_refused
theorem ne_law_refused : NoE m_law_refused := noE_fnC _ _
noncomputable def b_next_person : SM := (seqS (setS 3 (frzM (lcM (rgM (consA (callC lenD (consA (vM 1) nilA)) nilA)) (nmG 4) (blM (opM gtI (opM ixD (vM 1) (vM 4)) (cM (.int 0)))) (vM 4) [4])))
 (seqS (ifS (blM (opM eqD (vM 3) (frzM (lstM nilA)))) (retS (cM .non)) nxS)
 (seqS (ifS (blM (isiM CS (.cls 1) (vM 0))) (retS (opM ixD (callC minPD (consA (frzM (lcM (itL (vM 3)) (nmG 4) yesM (tupM (consA (opM ixD (vM 1) (vM 4)) (consA (vM 4) nilA))) [4])) nilA)) (cM (.int 1)))) nxS)
 (seqS (ifS (blM (isiM CS (.cls 3) (vM 0))) (retS (opM ixD (callC minPD (consA (frzM (lcM (itL (vM 3)) (nmG 4) yesM (tupM (consA (unM negI (opM ixD (vM 1) (vM 4))) (consA (vM 4) nilA))) [4])) nilA)) (cM (.int 1)))) nxS)
 (seqS (ifS (blM (isiM CS (.cls 4) (vM 0))) (seqS (setS 5 (frzM (lcM (itL (vM 3)) (nmG 4) (blM (opM gtI (vM 4) (vM 2))) (vM 4) [4])))
 (retS (opM ixD (opM addD (vM 5) (vM 3)) (cM (.int 0))))) nxS)
 (retS (opM ixD (vM 3) (cM (.int 0)))))))))
noncomputable def m_next_person : FM := fnC 6 b_next_person
theorem ne_next_person : NoE m_next_person := noE_fnC _ _
noncomputable def b_liveday_over : SM := (seqS (asgS (opM ixD (fldM 5 1 (vM 0)) (unM negI (cM (.int 1)))) (tupG 5 (consG (nmG 1) (consG (nmG 2) (consG (nmG 3) (consG (nmG 4) (consG (nmG 5) nilG)))))))
 (seqS (setS 6 (callC lenD (consA (frzM (lcM (itL (stillM (vM 3))) (nmG 7) (blM (opM gtI (vM 7) (cM (.int 0)))) (vM 7) [7])) nilA)))
 (seqS (setS 8 (callM m_next_person (argM 3 [] (consA (fldM 5 0 (vM 0)) (consA (frzM (callL listD (consA (stillM (vM 3)) nilA))) (consA (vM 4) nilA))))))
 (seqS (ifS (blM (opM notN (vM 8) (cM .non))) (seqS (setS 4 (vM 8))
 (seqS (setS 3 (ownM (callL listD (consA (stillM (vM 3)) nilA))))
 (setIxS (opM subI (opM ixD (vM 3) (vM 8)) (cM (.int 1))) (vM 3) (vM 8)))) nxS)
 (seqS (dropS (methC tyL appD (fldM 5 1 (vM 0)) (consA (tupM (consA (vM 1) (consA (frzM (catM (vM 2) (frzM (lstM (consA (vM 8) nilA))))) (consA (stillM (vM 3)) (consA (vM 4) (consA (opM addD (vM 5) (vM 6)) nilA)))))) nilA)))
 (retS (vM 8)))))))
noncomputable def m_liveday_over : FM := fnC 9 b_liveday_over
theorem ne_liveday_over : NoE m_liveday_over := noE_fnC _ _
noncomputable def l_law_right_1 : SM := (ifS (notM (blM (callM m_law_refused (argM 2 [] (consA (vM 2) (consA (vM 9) nilA)))))) (retS (cM (.bl false))) nxS)
noncomputable def l_law_right_2 : SM := (seqS (setS 6 (opM subI (unM negI (cM (.int 2))) (callM m_law_pick (argM 2 [] (consA (vM 0) (consA (opM subI (opM powI (cM (.int 10)) (cM (.int 20))) (cM (.int 1))) nilA))))))
 (seqS (setS 7 (callM m_law_pick (argM 2 [] (consA (vM 0) (consA (cM (.int 15)) nilA)))))
 (seqS (setS 8 (frzM (lstM (consA (cM (.int 0)) (consA (unM negI (cM (.int 1))) (consA (vM 6) (consA (cM (.bl true)) (consA (cM (.bl false)) (consA (cM .non) (consA (cM (.str "3")) (consA (cM (.str "")) (consA (frzM (lstM (consA (cM (.int 3)) nilA))) (consA (tupM (consA (cM (.int 1)) nilA)) (consA dicM (consA (opM subI (cM (.int 0)) (vM 5)) (consA (nwzM 0 m_row_init (argM 1 [] (consA (frzM (lstM (consA (cM (.int 3)) nilA))) nilA))) (consA (vM 2) (consA (cM (.obj 2 [])) nilA))))))))))))))))))
 (seqS (forS (itL (frzM (catM (frzM (slM (vM 8) (someO (vM 7)) noO)) (frzM (slM (vM 8) noO (someO (vM 7))))))) (nmG 9) l_law_right_1)
 (seqS (ifS (notM (blM (callM m_law_shows (argM 4 [] (consA (vM 2) (consA (vM 3) (consA (vM 4) (consA (callM m_law_pick (argM 2 [] (consA (vM 0) (consA (cM (.int 12)) nilA)))) nilA)))))))) (retS (cM (.bl false))) nxS)
 (seqS (ifS (blM (opM gtI (callM m_law_pick (argM 2 [] (consA (vM 0) (consA (cM (.int 3)) nilA)))) (cM (.int 0)))) (seqS (setS 10 (opM ixD (frzM (lstM (consA (cM (.int 1)) (consA (cM (.int 60)) (consA (opM addD (cM (.int 1)) (callM m_law_pick (argM 2 [] (consA (vM 0) (consA (cM (.int 60)) nilA))))) nilA))))) (callM m_law_pick (argM 2 [] (consA (vM 0) (consA (cM (.int 3)) nilA))))))
 (seqS (setS 3 (callM m_law_came (argM 2 [] (consA (vM 3) (consA (vM 10) nilA)))))
 (ifS (blM (opM neD (mthM 5 m_liveday_come (vM 2) (argM 1 [] (consA (vM 10) nilA))) (opM subI (callC lenD (consA (opM ixD (vM 3) (cM (.int 0))) nilA)) (cM (.int 1))))) (retS (cM (.bl false))) nxS))) (seqS (setS 3 (callM m_law_passed (argM 2 [] (consA (vM 1) (consA (vM 3) nilA)))))
 (ifS (notM (blM (callM m_law_same_ticks (argM 2 [] (consA (frzM (lstM (consA (mthM 5 m_liveday_over (vM 2) (argM 0 [] nilA)) nilA))) (consA (frzM (slM (opM ixD (vM 3) (cM (.int 1))) (someO (unM negI (cM (.int 1)))) noO)) nilA)))))) (retS (cM (.bl false))) nxS)))
 (setS 4 (opM addD (vM 4) (cM (.int 1))))))))))
noncomputable def b_law_right : SM := (seqS (setS 1 (opM ixD (frzM (lstM (consA (cM (.str "shortest")) (consA (cM (.str "first")) (consA (cM (.str "longest")) (consA (cM (.str "turns")) nilA)))))) (callM m_law_pick (argM 2 [] (consA (vM 0) (consA (cM (.int 4)) nilA))))))
 (seqS (setS 2 (newM 5 m_liveday_init (argM 1 [] (consA (callM m_law_rule (argM 1 [] (consA (vM 1) nilA))) nilA))))
 (seqS (asgS (tupM (consA (tupM (consA (frzM (lstM nilA)) (consA (frzM (lstM nilA)) (consA (frzM (lstM nilA)) (consA (unM negI (cM (.int 1))) (consA (cM (.int 0)) nilA)))))) (consA (cM (.int 0)) nilA))) (tupG 2 (consG (nmG 3) (consG (nmG 4) nilG))))
 (seqS (forS (rgM (consA (opM addD (cM (.int 1)) (callM m_law_pick (argM 2 [] (consA (vM 0) (consA (cM (.int 10)) nilA))))) nilA)) (nmG 5) l_law_right_2)
 (seqS (setS 11 (opM addD (cM (.int 61)) (callM m_law_pick (argM 2 [] (consA (vM 0) (consA (opM ixD (frzM (lstM (consA (cM (.int 10)) (consA (opM powI (cM (.int 10)) (cM (.int 29))) nilA)))) (callM m_law_pick (argM 2 [] (consA (vM 0) (consA (cM (.int 2)) nilA))))) nilA))))))
 (seqS (setS 12 (callM m_law_came (argM 2 [] (consA (vM 3) (consA (vM 11) nilA)))))
 (seqS (ifS (orM (blM (opM neD (mthM 5 m_liveday_come (vM 2) (argM 1 [] (consA (vM 11) nilA))) (callC lenD (consA (opM ixD (vM 3) (cM (.int 0))) nilA)))) (notM (blM (callM m_law_shows (argM 4 [] (consA (vM 2) (consA (vM 12) (consA (opM addD (vM 4) (cM (.int 1))) (consA (callM m_law_pick (argM 2 [] (consA (vM 0) (consA (cM (.int 12)) nilA)))) nilA))))))))) (retS (cM (.bl false))) nxS)
 (retS (andV (opM isN (mthM 5 m_liveday_back (vM 2) (argM 1 [.int 1] nilA)) (cM .non)) (callM m_law_shows (argM 4 [] (consA (vM 2) (consA (vM 3) (consA (vM 4) (consA (callM m_law_pick (argM 2 [] (consA (vM 0) (consA (cM (.int 12)) nilA)))) nilA)))))))))))))))
noncomputable def m_law_right : FM := fnC 13 b_law_right
theorem ne_law_right : NoE m_law_right := noE_fnC _ _
noncomputable def b_law_open : SM := (seqS (setS 2 (cM (.int 0)))
 (seqS (ifS (blM (opM ltI (vM 1) (callC lenD (consA (vM 0) nilA)))) (setS 2 (callC intD (consA (opM ixD (vM 0) (vM 1)) nilA))) nxS)
 (seqS (setS 3 (cM (.int 0)))
 (seqS (ifS (blM (opM geI (vM 2) (opM powI (cM (.int 10)) (cM (.int 18))))) (setS 3 (opM subI (vM 2) (opM powI (cM (.int 10)) (cM (.int 18))))) nxS)
 (retS (ownM (lstM (consA (vM 3) (consA (opM addD (opM addD (opM modI (callC intD (consA (vM 2) nilA)) (opM addD (opM powI (cM (.int 10)) (cM (.int 23))) (cM (.int 117)))) (opM mulD (cM (.int 86028121)) (vM 1))) (cM (.int 49979687))) (consA (cM (.int 1)) nilA))))))))))
noncomputable def m_law_open : FM := fn0 4 b_law_open
theorem ne_law_open : NoE m_law_open := noE_fn0 _ _
noncomputable def l_law_1 : SM := (ifS (notM (blM (callM m_law_right (argM 1 [] (consA (callM m_law_open (argM 2 [] (consA (vM 0) (consA (vM 1) nilA)))) nilA))))) (retS (cM (.bl false))) nxS)
noncomputable def b_law : SM := (seqS (forS (rgM (consA (callC maxD (consA (cM (.int 1)) (consA (callC minD (consA (cM (.int 3)) (consA (callC lenD (consA (vM 0) nilA)) nilA))) nilA))) nilA)) (nmG 1) l_law_1)
 (retS (cM (.bl true))))
noncomputable def m_law : FM := fnC 2 b_law
theorem ne_law : NoE m_law := noE_fnC _ _
end G
set_option maxHeartbeats 4000000
namespace G
open PySem L2 MX
def top (i : Nat) : Stmt := PySem.Challenge.pw_fewestwait_k71_refused_works.main.body.getD i (.Pass ⟨0, 0, 0, 0⟩)
abbrev s_liveday_init : Stmt := inClass (top 28) 0
abbrev s_law_came : Stmt := top 35
abbrev s_law_pick : Stmt := top 31
abbrev s_law_rule : Stmt := top 40
abbrev s_liveday_plan : Stmt := inClass (top 28) 7
abbrev s_law_is_int : Stmt := top 32
abbrev s_law_same_ticks : Stmt := top 33
abbrev s_liveday_comings : Stmt := inClass (top 28) 8
abbrev s_law_is_comings : Stmt := top 37
abbrev s_is_integer : Stmt := top 17
abbrev s_row_init : Stmt := inClass (top 18) 0
abbrev s_liveday_row : Stmt := inClass (top 28) 6
abbrev s_row_parts : Stmt := inClass (top 18) 1
abbrev s_liveday_len : Stmt := inClass (top 28) 4
abbrev s_liveday_minute : Stmt := inClass (top 28) 5
abbrev s_liveday_waiting : Stmt := inClass (top 28) 9
abbrev s_law_tells : Stmt := top 38
abbrev s_law_shows : Stmt := top 39
abbrev s_law_next : Stmt := top 34
abbrev s_law_passed : Stmt := top 36
abbrev s_liveday_come : Stmt := inClass (top 28) 1
abbrev s_liveday_back : Stmt := inClass (top 28) 3
abbrev s_law_refused : Stmt := top 41
abbrev s_next_person : Stmt := top 26
abbrev s_liveday_over : Stmt := inClass (top 28) 2
abbrev s_law_right : Stmt := top 42
abbrev s_law_open : Stmt := top 30
abbrev s_law : Stmt := top 43
structure Fx (K : PySem.W.Frag) (mg : Str → Option Value) (ca : CA) (fa : Nat → Addr) (fd : Nat → FuncData) : Prop where
  kit : Kit K ca CS
  b_ValueError : mg "ValueError" = none
  b_bool : mg "bool" = none
  b_int : mg "int" = none
  b_isinstance : mg "isinstance" = none
  b_len : mg "len" = none
  b_list : mg "list" = none
  b_max : mg "max" = none
  b_min : mg "min" = none
  b_range : mg "range" = none
  b_sorted : mg "sorted" = none
  b_tuple : mg "tuple" = none
  cls_0 : Cls K (ca 0)
  mg_Row : mg "Row" = some (.ref (ca 0))
  cls_1 : Cls K (ca 1)
  mg_Shortest : mg "Shortest" = some (.ref (ca 1))
  cls_2 : Cls K (ca 2)
  mg_First : mg "First" = some (.ref (ca 2))
  cls_3 : Cls K (ca 3)
  mg_Longest : mg "Longest" = some (.ref (ca 3))
  cls_4 : Cls K (ca 4)
  mg_Turns : mg "Turns" = some (.ref (ca 4))
  cls_5 : Cls K (ca 5)
  mg_LiveDay : mg "LiveDay" = some (.ref (ca 5))
  mk_0 : Mk K (ca 0) (fa 2)
  mk_1 : PySem.W.makesIn K (ca 1) = true
  in_1 : PySem.W.findIn K (.ref (ca 1)) "__init__" = some (some (.builtin "object.__init__"))
  kc_1 : PySem.W.keepIn K (.ref (ca 1)) = true
  mk_2 : PySem.W.makesIn K (ca 2) = true
  in_2 : PySem.W.findIn K (.ref (ca 2)) "__init__" = some (some (.builtin "object.__init__"))
  kc_2 : PySem.W.keepIn K (.ref (ca 2)) = true
  mk_3 : PySem.W.makesIn K (ca 3) = true
  in_3 : PySem.W.findIn K (.ref (ca 3)) "__init__" = some (some (.builtin "object.__init__"))
  kc_3 : PySem.W.keepIn K (.ref (ca 3)) = true
  mk_4 : PySem.W.makesIn K (ca 4) = true
  in_4 : PySem.W.findIn K (.ref (ca 4)) "__init__" = some (some (.builtin "object.__init__"))
  kc_4 : PySem.W.keepIn K (.ref (ca 4)) = true
  mk_5 : Mk K (ca 5) (fa 19)
  mg_DayError : mg "DayError" = some (.ref (ca 24))
  mg_InvalidCommand : mg "InvalidCommand" = some (.ref (ca 21))
  mg_InvalidDay : mg "InvalidDay" = some (.ref (ca 13))
  mg_InvalidDeed : mg "InvalidDeed" = some (.ref (ca 12))
  mg_InvalidLines : mg "InvalidLines" = some (.ref (ca 16))
  mg_InvalidMove : mg "InvalidMove" = some (.ref (ca 11))
  mg_InvalidOrder : mg "InvalidOrder" = some (.ref (ca 15))
  mg_InvalidPlan : mg "InvalidPlan" = some (.ref (ca 23))
  mg_InvalidRow : mg "InvalidRow" = some (.ref (ca 10))
  mg_InvalidText : mg "InvalidText" = some (.ref (ca 20))
  mg_InvalidWork : mg "InvalidWork" = some (.ref (ca 14))
  mg_NotEvener : mg "NotEvener" = some (.ref (ca 18))
  mg_NotFewer : mg "NotFewer" = some (.ref (ca 17))
  mg_NotReady : mg "NotReady" = some (.ref (ca 22))
  mg_NothingToUndo : mg "NothingToUndo" = some (.ref (ca 19))
  xf_14 : ExF K (ca 14)
  xm_14_14 : PySem.W.exmOne K (.ref (ca 14)) (.ref (ca 14)) = some true
  xc_14 : ExcC K (ca 14)
  ko_14_DayError : PySem.W.kitOne K (.ref (ca 14)) (.ref (ca 24)) = some true
  ko_14_InvalidCommand : PySem.W.kitOne K (.ref (ca 14)) (.ref (ca 21)) = some false
  ko_14_InvalidDay : PySem.W.kitOne K (.ref (ca 14)) (.ref (ca 13)) = some false
  ko_14_InvalidDeed : PySem.W.kitOne K (.ref (ca 14)) (.ref (ca 12)) = some false
  ko_14_InvalidLines : PySem.W.kitOne K (.ref (ca 14)) (.ref (ca 16)) = some false
  ko_14_InvalidMove : PySem.W.kitOne K (.ref (ca 14)) (.ref (ca 11)) = some false
  ko_14_InvalidOrder : PySem.W.kitOne K (.ref (ca 14)) (.ref (ca 15)) = some false
  ko_14_InvalidPlan : PySem.W.kitOne K (.ref (ca 14)) (.ref (ca 23)) = some false
  ko_14_InvalidRow : PySem.W.kitOne K (.ref (ca 14)) (.ref (ca 10)) = some false
  ko_14_InvalidText : PySem.W.kitOne K (.ref (ca 14)) (.ref (ca 20)) = some false
  ko_14_NotEvener : PySem.W.kitOne K (.ref (ca 14)) (.ref (ca 18)) = some false
  ko_14_NotFewer : PySem.W.kitOne K (.ref (ca 14)) (.ref (ca 17)) = some false
  ko_14_NotReady : PySem.W.kitOne K (.ref (ca 14)) (.ref (ca 22)) = some false
  ko_14_NothingToUndo : PySem.W.kitOne K (.ref (ca 14)) (.ref (ca 19)) = some false
  ko_14_ValueError : PySem.W.kitOne K (.ref (ca 14)) (.type "ValueError") = some true
  na_0_falling : NoAttr K (ca 0) "falling"
  na_5_rule : NoAttr K (ca 5) "rule"
  na_5_states : NoAttr K (ca 5) "states"
  fn_liveday_init : Fun K "__init__" "LiveDay.__init__" s_liveday_init (fa 19) (fd 19)
  bd_liveday_init : Binds K (fd 19) ["self", "rule"] []
  fn_law_came : Fun K "_law_came" "_law_came" s_law_came (fa 34) (fd 34)
  bd_law_came : Binds K (fd 34) ["state", "work"] []
  mg_law_came : mg "_law_came" = some (.ref (fa 34))
  kp_law_came : PySem.W.keepIn K (.ref (fa 34)) = true
  fn_law_pick : Fun K "_law_pick" "_law_pick" s_law_pick (fa 30) (fd 30)
  bd_law_pick : Binds K (fd 30) ["pool", "many"] []
  mg_law_pick : mg "_law_pick" = some (.ref (fa 30))
  kp_law_pick : PySem.W.keepIn K (.ref (fa 30)) = true
  fn_law_rule : Fun K "_law_rule" "_law_rule" s_law_rule (fa 39) (fd 39)
  bd_law_rule : Binds K (fd 39) ["name"] []
  mg_law_rule : mg "_law_rule" = some (.ref (fa 39))
  kp_law_rule : PySem.W.keepIn K (.ref (fa 39)) = true
  fn_liveday_plan : Fun K "plan" "LiveDay.plan" s_liveday_plan (fa 26) (fd 26)
  bd_liveday_plan : Binds K (fd 26) ["self"] []
  pr_liveday_plan : ∃ p, PropOf K (ca 5) "plan" p (fa 26)
  fn_law_is_int : Fun K "_law_is_int" "_law_is_int" s_law_is_int (fa 31) (fd 31)
  bd_law_is_int : Binds K (fd 31) ["found"] []
  mg_law_is_int : mg "_law_is_int" = some (.ref (fa 31))
  kp_law_is_int : PySem.W.keepIn K (.ref (fa 31)) = true
  fn_law_same_ticks : Fun K "_law_same_ticks" "_law_same_ticks" s_law_same_ticks (fa 32) (fd 32)
  bd_law_same_ticks : Binds K (fd 32) ["found", "due"] []
  mg_law_same_ticks : mg "_law_same_ticks" = some (.ref (fa 32))
  kp_law_same_ticks : PySem.W.keepIn K (.ref (fa 32)) = true
  fn_liveday_comings : Fun K "comings" "LiveDay.comings" s_liveday_comings (fa 27) (fd 27)
  bd_liveday_comings : Binds K (fd 27) ["self"] []
  pr_liveday_comings : ∃ p, PropOf K (ca 5) "comings" p (fa 27)
  fn_law_is_comings : Fun K "_law_is_comings" "_law_is_comings" s_law_is_comings (fa 36) (fd 36)
  bd_law_is_comings : Binds K (fd 36) ["found", "due"] []
  mg_law_is_comings : mg "_law_is_comings" = some (.ref (fa 36))
  kp_law_is_comings : PySem.W.keepIn K (.ref (fa 36)) = true
  fn_is_integer : Fun K "is_integer" "is_integer" s_is_integer (fa 1) (fd 1)
  bd_is_integer : Binds K (fd 1) ["value"] []
  mg_is_integer : mg "is_integer" = some (.ref (fa 1))
  kp_is_integer : PySem.W.keepIn K (.ref (fa 1)) = true
  fn_row_init : Fun K "__init__" "Row.__init__" s_row_init (fa 2) (fd 2)
  bd_row_init : Binds K (fd 2) ["self", "items"] []
  fn_liveday_row : Fun K "row" "LiveDay.row" s_liveday_row (fa 25) (fd 25)
  bd_liveday_row : Binds K (fd 25) ["self"] []
  pr_liveday_row : ∃ p, PropOf K (ca 5) "row" p (fa 25)
  fn_row_parts : Fun K "parts" "Row.parts" s_row_parts (fa 3) (fd 3)
  bd_row_parts : Binds K (fd 3) ["self"] []
  pr_row_parts : ∃ p, PropOf K (ca 0) "parts" p (fa 3)
  fn_liveday_len : Fun K "__len__" "LiveDay.__len__" s_liveday_len (fa 23) (fd 23)
  bd_liveday_len : Binds K (fd 23) ["self"] []
  fi_liveday_len : PySem.W.findIn K (.ref (ca 5)) "__len__" = some (some (.ref (fa 23)))
  if_liveday_len : PySem.W.isFn K (.ref (fa 23)) = true
  fn_liveday_minute : Fun K "minute" "LiveDay.minute" s_liveday_minute (fa 24) (fd 24)
  bd_liveday_minute : Binds K (fd 24) ["self"] []
  pr_liveday_minute : ∃ p, PropOf K (ca 5) "minute" p (fa 24)
  fn_liveday_waiting : Fun K "waiting" "LiveDay.waiting" s_liveday_waiting (fa 28) (fd 28)
  bd_liveday_waiting : Binds K (fd 28) ["self"] []
  pr_liveday_waiting : ∃ p, PropOf K (ca 5) "waiting" p (fa 28)
  fn_law_tells : Fun K "_law_tells" "_law_tells" s_law_tells (fa 37) (fd 37)
  bd_law_tells : Binds K (fd 37) ["live", "state", "deeds", "what"] []
  mg_law_tells : mg "_law_tells" = some (.ref (fa 37))
  kp_law_tells : PySem.W.keepIn K (.ref (fa 37)) = true
  fn_law_shows : Fun K "_law_shows" "_law_shows" s_law_shows (fa 38) (fd 38)
  bd_law_shows : Binds K (fd 38) ["live", "state", "deeds", "order"] []
  mg_law_shows : mg "_law_shows" = some (.ref (fa 38))
  kp_law_shows : PySem.W.keepIn K (.ref (fa 38)) = true
  fn_law_next : Fun K "_law_next" "_law_next" s_law_next (fa 33) (fd 33)
  bd_law_next : Binds K (fd 33) ["name", "works", "last"] []
  mg_law_next : mg "_law_next" = some (.ref (fa 33))
  kp_law_next : PySem.W.keepIn K (.ref (fa 33)) = true
  fn_law_passed : Fun K "_law_passed" "_law_passed" s_law_passed (fa 35) (fd 35)
  bd_law_passed : Binds K (fd 35) ["name", "state"] []
  mg_law_passed : mg "_law_passed" = some (.ref (fa 35))
  kp_law_passed : PySem.W.keepIn K (.ref (fa 35)) = true
  fn_liveday_come : Fun K "come" "LiveDay.come" s_liveday_come (fa 20) (fd 20)
  bd_liveday_come : Binds K (fd 20) ["self", "work"] []
  mt_liveday_come : Meth K (ca 5) "come" (fa 20)
  fn_liveday_back : Fun K "back" "LiveDay.back" s_liveday_back (fa 22) (fd 22)
  bd_liveday_back : ∃ dU, Vals [V.int 1] dU ∧ Binds K (fd 22) ["self", "count"] dU
  kb_liveday_back : KBn K (fd 22) ["self", "count"] 1 ["count"] (fun us ws => us ++ ws) (fun vs zs => vs ++ zs)
  mt_liveday_back : Meth K (ca 5) "back" (fa 22)
  fn_law_refused : Fun K "_law_refused" "_law_refused" s_law_refused (fa 40) (fd 40)
  bd_law_refused : Binds K (fd 40) ["live", "work"] []
  mg_law_refused : mg "_law_refused" = some (.ref (fa 40))
  kp_law_refused : PySem.W.keepIn K (.ref (fa 40)) = true
  fn_next_person : Fun K "next_person" "next_person" s_next_person (fa 18) (fd 18)
  bd_next_person : Binds K (fd 18) ["rule", "left", "last"] []
  mg_next_person : mg "next_person" = some (.ref (fa 18))
  kp_next_person : PySem.W.keepIn K (.ref (fa 18)) = true
  fn_liveday_over : Fun K "over" "LiveDay.over" s_liveday_over (fa 21) (fd 21)
  bd_liveday_over : Binds K (fd 21) ["self"] []
  mt_liveday_over : Meth K (ca 5) "over" (fa 21)
  fn_law_right : Fun K "_law_right" "_law_right" s_law_right (fa 41) (fd 41)
  bd_law_right : Binds K (fd 41) ["pool"] []
  mg_law_right : mg "_law_right" = some (.ref (fa 41))
  kp_law_right : PySem.W.keepIn K (.ref (fa 41)) = true
  fn_law_open : Fun K "_law_open" "_law_open" s_law_open (fa 29) (fd 29)
  bd_law_open : Binds K (fd 29) ["script", "spot"] []
  mg_law_open : mg "_law_open" = some (.ref (fa 29))
  kp_law_open : PySem.W.keepIn K (.ref (fa 29)) = true
  fn_law : Fun K "law" "law" s_law (fa 42) (fd 42)
  bd_law : Binds K (fd 42) ["script"] []
  mg_law : mg "law" = some (.ref (fa 42))
  kp_law : PySem.W.keepIn K (.ref (fa 42)) = true
theorem sc_liveday_init : FnScope ["self", "rule"] ["self", "rule"] (defScope s_liveday_init) := ⟨rfl, rfl, rfl, by decide +kernel, rfl, by decide +kernel, by decide +kernel⟩
theorem ok_liveday_init {P : Program} {w : World} {K : PySem.W.Frag} {mg : Str → Option Value} {base : Heap} {ca : CA} {fa : Nat → Addr} {fd : Nat → FuncData} (T : Fx K mg ca fa fd)  : FnOk P w K mg base CX0 2 (fa 19) (fd 19) ["self", "rule"] (spM K ca 2 m_liveday_init) := by
  refine id (fn_ok0 (N := ["self", "rule"]) (k := 1) T.fn_liveday_init sc_liveday_init fun cdv A outer s H E hr => ?_)
  have hN := sc_liveday_init.nd
  have hc : (true : Bool) = true := rfl
  have hu := hu64 hr
  exact (mss_cons
 (ms_setFld (c := 5) (i := 0) T.cls_5 T.na_5_rule rfl (me_v (i := 0)) (me_v (i := 1))) (mss_one
 (ms_setFld (c := 5) (i := 1) T.cls_5 T.na_5_states rfl (me_v (i := 0)) (ML.own (ml_lst (ma_cons (me_tup (ma_cons (ML.frz (ml_lst ma_nil)) (ma_cons (ML.frz (ml_lst ma_nil)) (ma_cons (ML.frz (ml_lst ma_nil)) (ma_cons (me_neg me_int) (ma_cons me_int ma_nil)))))) ma_nil))))))
theorem sc_law_came : FnScope ["state", "work", "comings", "plan", "works", "last", "total"] ["state", "work"] (defScope s_law_came) := ⟨rfl, rfl, rfl, by decide +kernel, rfl, by decide +kernel, by decide +kernel⟩
theorem ok_law_came {P : Program} {w : World} {K : PySem.W.Frag} {mg : Str → Option Value} {base : Heap} {ca : CA} {fa : Nat → Addr} {fd : Nat → FuncData} (T : Fx K mg ca fa fd)  : FnOk P w K mg base CX0 2 (fa 34) (fd 34) ["state", "work"] (spM K ca 2 m_law_came) := by
  refine fn_cut (fn_ok0 (N := ["state", "work", "comings", "plan", "works", "last", "total"]) (k := 1) T.fn_law_came sc_law_came fun cdv A outer s H E hr => ?_)
  have hN := sc_law_came.nd
  have hc : (true : Bool) = true := rfl
  have hu := hu64 hr
  exact (mss_cons
 (ms_asg (me_v (i := 0)) (mg_tup hc (mgs_cons (mg_nm hN) (mgs_cons (mg_nm hN) (mgs_cons (mg_nm hN) (mgs_cons (mg_nm hN) (mgs_cons (mg_nm hN) mgs_nil))))))) (mss_one
 (ms_ret (me_tup (ma_cons (ML.frz (ml_cat (me_v (i := 2)) (ML.frz (ml_lst (ma_cons (me_tup (ma_cons (me_callB mc_len T.b_len (ma_cons (me_v (i := 3)) ma_nil)) (ma_cons (me_v (i := 1)) ma_nil))) ma_nil))))) (ma_cons (me_v (i := 3)) (ma_cons (ML.frz (ml_cat (me_v (i := 4)) (ML.frz (ml_lst (ma_cons (me_v (i := 1)) ma_nil))))) (ma_cons (me_v (i := 5)) (ma_cons (me_v (i := 6)) ma_nil)))))))))
theorem sc_law_pick : FnScope ["pool", "many", "deep", "seed", "one", "two"] ["pool", "many"] (defScope s_law_pick) := ⟨rfl, rfl, rfl, by decide +kernel, rfl, by decide +kernel, by decide +kernel⟩
theorem ok_law_pick {P : Program} {w : World} {K : PySem.W.Frag} {mg : Str → Option Value} {base : Heap} {ca : CA} {fa : Nat → Addr} {fd : Nat → FuncData} (T : Fx K mg ca fa fd)  : FnOk P w K mg base CX0 2 (fa 30) (fd 30) ["pool", "many"] (spM K ca 2 m_law_pick) := by
  refine fn_cut (fn_ok0 (N := ["pool", "many", "deep", "seed", "one", "two"]) (k := 1) T.fn_law_pick sc_law_pick fun cdv A outer s H E hr => ?_)
  have hN := sc_law_pick.nd
  have hc : (true : Bool) = true := rfl
  have hu := hu64 hr
  exact (mss_cons
 (ms_if (mt_cmp mop_gtI (me_ix (me_v (i := 0)) me_int) me_int) (mss_cons
 (ms_set (i := 2) hN (me_ix (me_v (i := 0)) me_int)) (mss_cons
 (ms_setIx (me_op mop_divI (me_v (i := 2)) (me_v (i := 1))) (me_v (i := 0)) me_int) (mss_one
 (ms_ret (me_op mop_modI (me_callT mc_int T.b_int (ma_cons (me_v (i := 2)) ma_nil)) (me_v (i := 1))))))) mss_nil) (mss_cons
 (ms_setIx (me_op mop_add (me_ix (me_v (i := 0)) me_int) me_int) (me_v (i := 0)) me_int) (mss_cons
 (ms_set (i := 3) hN (me_op mop_add (me_ix (me_v (i := 0)) me_int) (me_op mop_mul me_int (me_ix (me_v (i := 0)) me_int)))) (mss_cons
 (ms_set (i := 4) hN (me_op mop_modI (me_callT mc_int T.b_int (ma_cons (me_op mop_mul (me_op mop_mul (me_v (i := 3)) (me_v (i := 3))) (me_op mop_add (me_ix (me_v (i := 0)) me_int) (me_op mop_mul me_int (me_ix (me_v (i := 0)) me_int)))) ma_nil)) (me_op mop_add (me_op mop_powI me_int me_int) me_int))) (mss_cons
 (ms_set (i := 5) hN (me_op mop_modI (me_callT mc_int T.b_int (ma_cons (me_op mop_add (me_op mop_mul (me_v (i := 4)) (me_v (i := 4))) (me_op mop_mul me_int (me_ix (me_v (i := 0)) me_int))) ma_nil)) (me_op mop_add (me_op mop_powI me_int me_int) me_int))) (mss_one
 (ms_ret (me_op mop_modI (me_callT mc_int T.b_int (ma_cons (me_op mop_divI (me_v (i := 5)) me_int) ma_nil)) (me_v (i := 1))))))))))
theorem sc_law_rule : FnScope ["name"] ["name"] (defScope s_law_rule) := ⟨rfl, rfl, rfl, by decide +kernel, rfl, by decide +kernel, by decide +kernel⟩
theorem ok_law_rule {P : Program} {w : World} {K : PySem.W.Frag} {mg : Str → Option Value} {base : Heap} {ca : CA} {fa : Nat → Addr} {fd : Nat → FuncData} (T : Fx K mg ca fa fd)  : FnOk P w K mg base CX0 2 (fa 39) (fd 39) ["name"] (spM K ca 1 m_law_rule) := by
  refine fn_cut (fn_ok0 (N := ["name"]) (k := 1) T.fn_law_rule sc_law_rule fun cdv A outer s H E hr => ?_)
  have hN := sc_law_rule.nd
  have hc : (true : Bool) = true := rfl
  have hu := hu64 hr
  exact (mss_cons
 (ms_if (mt_cmp (mop_eq hu) (me_v (i := 0)) me_str) (mss_one
 (ms_ret (me_new0 (c := 1) T.mg_Shortest T.mk_1 T.in_1 T.kc_1 rfl))) mss_nil) (mss_cons
 (ms_if (mt_cmp (mop_eq hu) (me_v (i := 0)) me_str) (mss_one
 (ms_ret (me_new0 (c := 2) T.mg_First T.mk_2 T.in_2 T.kc_2 rfl))) mss_nil) (mss_cons
 (ms_if (mt_cmp (mop_eq hu) (me_v (i := 0)) me_str) (mss_one
 (ms_ret (me_new0 (c := 3) T.mg_Longest T.mk_3 T.in_3 T.kc_3 rfl))) mss_nil) (mss_one
 (ms_ret (me_new0 (c := 4) T.mg_Turns T.mk_4 T.in_4 T.kc_4 rfl))))))
theorem sc_liveday_plan : FnScope ["self"] ["self"] (defScope s_liveday_plan) := ⟨rfl, rfl, rfl, by decide +kernel, rfl, by decide +kernel, by decide +kernel⟩
theorem ok_liveday_plan {P : Program} {w : World} {K : PySem.W.Frag} {mg : Str → Option Value} {base : Heap} {ca : CA} {fa : Nat → Addr} {fd : Nat → FuncData} (T : Fx K mg ca fa fd)  : FnOk P w K mg base CX0 2 (fa 26) (fd 26) ["self"] (spM K ca 1 m_liveday_plan) := by
  refine id (fn_ok0 (N := ["self"]) (k := 1) T.fn_liveday_plan sc_liveday_plan fun cdv A outer s H E hr => ?_)
  have hN := sc_liveday_plan.nd
  have hc : (true : Bool) = true := rfl
  have hu := hu64 hr
  exact (mss_one
 (ms_ret (ML.own (ml_callT mc_list T.b_list (ma_cons (me_ix (me_ix (me_fld (c := 5) (i := 1) T.cls_5 T.na_5_states rfl (me_v (i := 0))) (me_neg me_int)) me_int) ma_nil)))))
theorem sc_law_is_int : FnScope ["found"] ["found"] (defScope s_law_is_int) := ⟨rfl, rfl, rfl, by decide +kernel, rfl, by decide +kernel, by decide +kernel⟩
theorem ok_law_is_int {P : Program} {w : World} {K : PySem.W.Frag} {mg : Str → Option Value} {base : Heap} {ca : CA} {fa : Nat → Addr} {fd : Nat → FuncData} (T : Fx K mg ca fa fd)  : FnOk P w K mg base CX0 2 (fa 31) (fd 31) ["found"] (spM K ca 1 m_law_is_int) := by
  refine fn_cut (fn_ok0 (N := ["found"]) (k := 1) T.fn_law_is_int sc_law_is_int fun cdv A outer s H E hr => ?_)
  have hN := sc_law_is_int.nd
  have hc : (true : Bool) = true := rfl
  have hu := hu64 hr
  exact (mss_one
 (ms_ret (me_and (me_isiB (c := .int) T.kit T.b_isinstance T.b_int (me_v (i := 0)) rfl rfl) (me_one (me_not (me_isiB (c := .bl) T.kit T.b_isinstance T.b_bool (me_v (i := 0)) rfl rfl))))))
theorem sc_law_same_ticks : FnScope ["found", "due", "one"] ["found", "due"] (defScope s_law_same_ticks) := ⟨rfl, rfl, rfl, by decide +kernel, rfl, by decide +kernel, by decide +kernel⟩
theorem ok_law_same_ticks {P : Program} {w : World} {K : PySem.W.Frag} {mg : Str → Option Value} {base : Heap} {ca : CA} {fa : Nat → Addr} {fd : Nat → FuncData} (T : Fx K mg ca fa fd) (ok_law_is_int : FnOk P w K mg base CX0 2 (fa 31) (fd 31) ["found"] (spM K ca 1 m_law_is_int)) : FnOk P w K mg base CX0 4 (fa 32) (fd 32) ["found", "due"] (spM K ca 2 m_law_same_ticks) := by
  refine fn_cut (fn_ok0 (N := ["found", "due", "one"]) (k := 3) T.fn_law_same_ticks sc_law_same_ticks fun cdv A outer s H E hr => ?_)
  have hN := sc_law_same_ticks.nd
  have hc : (true : Bool) = true := rfl
  have hu := hu64 hr
  exact (mss_cons
 (ms_if (MW.mt (mw_or (mt_not (mt_val (me_isiB (c := .lst) T.kit T.b_isinstance T.b_list (me_v (i := 0)) rfl rfl))) (mw_or1 (mt_cmp (mop_ne hu) (me_v (i := 0)) (me_v (i := 1)))))) (mss_one
 (ms_ret me_bl)) mss_nil) (mss_one
 (ms_ret (me_cmp (mop_eq hu) (ML.frz (ml_lcL (own := [("one", 2)]) hc hN (mi_live (me_v (i := 0))) (blk_mk (N := ["found", "due", "one"]) (sc := defScope s_law_same_ticks) (own := [("one", 2)])) (fun _ _ _ _ _ => (mg_nm hN)) (fun _ _ _ _ _ => (mts_one (MW.mt (mw_and (mt_cmp mop_notN (me_v (i := 2)) me_non) (mw_and1 (mt_not (mt_val (me_call (ps := ["found"]) ok_law_is_int ne_law_is_int (hr.mono (by decide)) T.mg_law_is_int T.kp_law_is_int T.bd_law_is_int .nil rvd_nil (ma_cons (me_v (i := 2)) ma_nil))))))))) (fun _ _ _ _ _ => (me_v (i := 2))) (by decide))) (ML.frz (ml_lst ma_nil))))))
theorem sc_liveday_comings : FnScope ["self"] ["self"] (defScope s_liveday_comings) := ⟨rfl, rfl, rfl, by decide +kernel, rfl, by decide +kernel, by decide +kernel⟩
theorem ok_liveday_comings {P : Program} {w : World} {K : PySem.W.Frag} {mg : Str → Option Value} {base : Heap} {ca : CA} {fa : Nat → Addr} {fd : Nat → FuncData} (T : Fx K mg ca fa fd)  : FnOk P w K mg base CX0 2 (fa 27) (fd 27) ["self"] (spM K ca 1 m_liveday_comings) := by
  refine id (fn_ok0 (N := ["self"]) (k := 1) T.fn_liveday_comings sc_liveday_comings fun cdv A outer s H E hr => ?_)
  have hN := sc_liveday_comings.nd
  have hc : (true : Bool) = true := rfl
  have hu := hu64 hr
  exact (mss_one
 (ms_ret (ML.own (ml_callT mc_list T.b_list (ma_cons (me_ix (me_ix (me_fld (c := 5) (i := 1) T.cls_5 T.na_5_states rfl (me_v (i := 0))) (me_neg me_int)) me_int) ma_nil)))))
theorem sc_law_is_comings : FnScope ["found", "due", "one"] ["found", "due"] (defScope s_law_is_comings) := ⟨rfl, rfl, rfl, by decide +kernel, rfl, by decide +kernel, by decide +kernel⟩
theorem ok_law_is_comings {P : Program} {w : World} {K : PySem.W.Frag} {mg : Str → Option Value} {base : Heap} {ca : CA} {fa : Nat → Addr} {fd : Nat → FuncData} (T : Fx K mg ca fa fd) (ok_law_is_int : FnOk P w K mg base CX0 2 (fa 31) (fd 31) ["found"] (spM K ca 1 m_law_is_int)) : FnOk P w K mg base CX0 4 (fa 36) (fd 36) ["found", "due"] (spM K ca 2 m_law_is_comings) := by
  refine fn_cut (fn_ok0 (N := ["found", "due", "one"]) (k := 3) T.fn_law_is_comings sc_law_is_comings fun cdv A outer s H E hr => ?_)
  have hN := sc_law_is_comings.nd
  have hc : (true : Bool) = true := rfl
  have hu := hu64 hr
  exact (mss_cons
 (ms_if (MW.mt (mw_or (mt_not (mt_val (me_isiB (c := .lst) T.kit T.b_isinstance T.b_list (me_v (i := 0)) rfl rfl))) (mw_or1 (mt_cmp (mop_ne hu) (me_v (i := 0)) (me_v (i := 1)))))) (mss_one
 (ms_ret me_bl)) mss_nil) (mss_cons
 (ms_forL PassesOwn.never hc (mi_live (me_v (i := 0))) (mg_nm hN) (mss_one
 (ms_if (MW.mt (mw_or (mt_not (mt_val (me_isiB (c := .tup) T.kit T.b_isinstance T.b_tuple (me_v (i := 2)) rfl rfl))) (mw_or (mt_not (mt_val (me_call (ps := ["found"]) ok_law_is_int ne_law_is_int (hr.mono (by decide)) T.mg_law_is_int T.kp_law_is_int T.bd_law_is_int .nil rvd_nil (ma_cons (me_ix (me_v (i := 2)) me_int) ma_nil)))) (mw_or1 (mt_not (mt_val (me_call (ps := ["found"]) ok_law_is_int ne_law_is_int (hr.mono (by decide)) T.mg_law_is_int T.kp_law_is_int T.bd_law_is_int .nil rvd_nil (ma_cons (me_ix (me_v (i := 2)) me_int) ma_nil)))))))) (mss_one
 (ms_ret me_bl)) mss_nil))) (mss_one
 (ms_ret me_bl))))
theorem sc_is_integer : FnScope ["value"] ["value"] (defScope s_is_integer) := ⟨rfl, rfl, rfl, by decide +kernel, rfl, by decide +kernel, by decide +kernel⟩
theorem ok_is_integer {P : Program} {w : World} {K : PySem.W.Frag} {mg : Str → Option Value} {base : Heap} {ca : CA} {fa : Nat → Addr} {fd : Nat → FuncData} (T : Fx K mg ca fa fd)  : FnOk P w K mg base CX0 2 (fa 1) (fd 1) ["value"] (spM K ca 1 m_is_integer) := by
  refine fn_cut (fn_ok0 (N := ["value"]) (k := 1) T.fn_is_integer sc_is_integer fun cdv A outer s H E hr => ?_)
  have hN := sc_is_integer.nd
  have hc : (true : Bool) = true := rfl
  have hu := hu64 hr
  exact (mss_one
 (ms_ret (me_and (me_isiB (c := .int) T.kit T.b_isinstance T.b_int (me_v (i := 0)) rfl rfl) (me_one (me_not (me_isiB (c := .bl) T.kit T.b_isinstance T.b_bool (me_v (i := 0)) rfl rfl))))))
theorem sc_row_init : FnScope ["self", "items", "item"] ["self", "items"] (defScope s_row_init) := ⟨rfl, rfl, rfl, by decide +kernel, rfl, by decide +kernel, by decide +kernel⟩
theorem ok_row_init {P : Program} {w : World} {K : PySem.W.Frag} {mg : Str → Option Value} {base : Heap} {ca : CA} {fa : Nat → Addr} {fd : Nat → FuncData} (T : Fx K mg ca fa fd) (ok_is_integer : FnOk P w K mg base CX0 2 (fa 1) (fd 1) ["value"] (spM K ca 1 m_is_integer)) : FnOk P w K mg base CX0 4 (fa 2) (fd 2) ["self", "items"] (spM K ca 2 m_row_init) := by
  refine fn_cut (fn_ok0 (N := ["self", "items", "item"]) (k := 3) T.fn_row_init sc_row_init fun cdv A outer s H E hr => ?_)
  have hN := sc_row_init.nd
  have hc : (true : Bool) = true := rfl
  have hu := hu64 hr
  exact (mss_cons
 (ms_if (mt_not (mt_val (me_isiB (c := .lst) T.kit T.b_isinstance T.b_list (me_v (i := 1)) rfl rfl))) (mss_one
 ms_never) mss_nil) (mss_cons
 (ms_for PassesOwn.never hc (mi_list (me_v (i := 1))) (mg_nm hN) (mss_one
 (ms_if (MW.mt (mw_or (mt_not (mt_val (me_call (ps := ["value"]) ok_is_integer ne_is_integer (hr.mono (by decide)) T.mg_is_integer T.kp_is_integer T.bd_is_integer .nil rvd_nil (ma_cons (me_v (i := 2)) ma_nil)))) (mw_or1 (mt_cmp mop_ltI (me_v (i := 2)) me_int)))) (mss_one
 ms_never) mss_nil))) (mss_one
 (ms_setFld (c := 0) (i := 0) T.cls_0 T.na_0_falling rfl (me_v (i := 0)) (ML.frz (ml_sortR T.b_sorted (ma_cons (me_v (i := 1)) ma_nil)))))))
theorem sc_liveday_row : FnScope ["self", "work"] ["self"] (defScope s_liveday_row) := ⟨rfl, rfl, rfl, by decide +kernel, rfl, by decide +kernel, by decide +kernel⟩
theorem ok_liveday_row {P : Program} {w : World} {K : PySem.W.Frag} {mg : Str → Option Value} {base : Heap} {ca : CA} {fa : Nat → Addr} {fd : Nat → FuncData} (T : Fx K mg ca fa fd) (ok_row_init : FnOk P w K mg base CX0 4 (fa 2) (fd 2) ["self", "items"] (spM K ca 2 m_row_init)) : FnOk P w K mg base CX0 6 (fa 25) (fd 25) ["self"] (spM K ca 1 m_liveday_row) := by
  refine fn_cut (fn_ok0 (N := ["self", "work"]) (k := 5) T.fn_liveday_row sc_liveday_row fun cdv A outer s H E hr => ?_)
  have hN := sc_liveday_row.nd
  have hc : (true : Bool) = true := rfl
  have hu := hu64 hr
  exact (mss_one
 (ms_ret (me_nwz (c := 0) (ps := ["items"]) T.mk_0 ok_row_init ne_row_init (hr.mono (by decide)) T.mg_Row T.bd_row_init .nil rvd_nil (ma_cons (ML.frz (ml_lc (own := [("work", 1)]) hc hN (mi_list (me_ix (me_ix (me_fld (c := 5) (i := 1) T.cls_5 T.na_5_states rfl (me_v (i := 0))) (me_neg me_int)) me_int)) (blk_mk (N := ["self", "work"]) (sc := defScope s_liveday_row) (own := [("work", 1)])) (fun _ _ _ _ _ => (mg_nm hN)) (fun _ _ _ _ _ => (mts_one (mt_cmp mop_gtI (me_v (i := 1)) me_int))) (fun _ _ _ _ _ => (me_v (i := 1))) (by decide))) ma_nil))))
theorem sc_row_parts : FnScope ["self"] ["self"] (defScope s_row_parts) := ⟨rfl, rfl, rfl, by decide +kernel, rfl, by decide +kernel, by decide +kernel⟩
theorem ok_row_parts {P : Program} {w : World} {K : PySem.W.Frag} {mg : Str → Option Value} {base : Heap} {ca : CA} {fa : Nat → Addr} {fd : Nat → FuncData} (T : Fx K mg ca fa fd)  : FnOk P w K mg base CX0 2 (fa 3) (fd 3) ["self"] (spM K ca 1 m_row_parts) := by
  refine id (fn_ok0 (N := ["self"]) (k := 1) T.fn_row_parts sc_row_parts fun cdv A outer s H E hr => ?_)
  have hN := sc_row_parts.nd
  have hc : (true : Bool) = true := rfl
  have hu := hu64 hr
  exact (mss_one
 (ms_ret (ML.own (ml_callT mc_list T.b_list (ma_cons (me_fld (c := 0) (i := 0) T.cls_0 T.na_0_falling rfl (me_v (i := 0))) ma_nil)))))
theorem sc_liveday_len : FnScope ["self"] ["self"] (defScope s_liveday_len) := ⟨rfl, rfl, rfl, by decide +kernel, rfl, by decide +kernel, by decide +kernel⟩
theorem ok_liveday_len {P : Program} {w : World} {K : PySem.W.Frag} {mg : Str → Option Value} {base : Heap} {ca : CA} {fa : Nat → Addr} {fd : Nat → FuncData} (T : Fx K mg ca fa fd)  : FnOk P w K mg base CX0 2 (fa 23) (fd 23) ["self"] (spM K ca 1 m_liveday_len) := by
  refine fn_cut (fn_ok0 (N := ["self"]) (k := 1) T.fn_liveday_len sc_liveday_len fun cdv A outer s H E hr => ?_)
  have hN := sc_liveday_len.nd
  have hc : (true : Bool) = true := rfl
  have hu := hu64 hr
  exact (mss_one
 (ms_ret (me_callB mc_len T.b_len (ma_cons (ML.frz (ml_sl (me_fld (c := 5) (i := 1) T.cls_5 T.na_5_states rfl (me_v (i := 0))) (mo_some me_int) mo_none)) ma_nil))))
theorem sc_liveday_minute : FnScope ["self"] ["self"] (defScope s_liveday_minute) := ⟨rfl, rfl, rfl, by decide +kernel, rfl, by decide +kernel, by decide +kernel⟩
theorem ok_liveday_minute {P : Program} {w : World} {K : PySem.W.Frag} {mg : Str → Option Value} {base : Heap} {ca : CA} {fa : Nat → Addr} {fd : Nat → FuncData} (T : Fx K mg ca fa fd)  : FnOk P w K mg base CX0 2 (fa 24) (fd 24) ["self"] (spM K ca 1 m_liveday_minute) := by
  refine fn_cut (fn_ok0 (N := ["self"]) (k := 1) T.fn_liveday_minute sc_liveday_minute fun cdv A outer s H E hr => ?_)
  have hN := sc_liveday_minute.nd
  have hc : (true : Bool) = true := rfl
  have hu := hu64 hr
  exact (mss_one
 (ms_ret (me_callB mc_len T.b_len (ma_cons (me_ix (me_ix (me_fld (c := 5) (i := 1) T.cls_5 T.na_5_states rfl (me_v (i := 0))) (me_neg me_int)) me_int) ma_nil))))
theorem sc_liveday_waiting : FnScope ["self"] ["self"] (defScope s_liveday_waiting) := ⟨rfl, rfl, rfl, by decide +kernel, rfl, by decide +kernel, by decide +kernel⟩
theorem ok_liveday_waiting {P : Program} {w : World} {K : PySem.W.Frag} {mg : Str → Option Value} {base : Heap} {ca : CA} {fa : Nat → Addr} {fd : Nat → FuncData} (T : Fx K mg ca fa fd)  : FnOk P w K mg base CX0 2 (fa 28) (fd 28) ["self"] (spM K ca 1 m_liveday_waiting) := by
  refine fn_cut (fn_ok0 (N := ["self"]) (k := 1) T.fn_liveday_waiting sc_liveday_waiting fun cdv A outer s H E hr => ?_)
  have hN := sc_liveday_waiting.nd
  have hc : (true : Bool) = true := rfl
  have hu := hu64 hr
  exact (mss_one
 (ms_ret (me_ix (me_ix (me_fld (c := 5) (i := 1) T.cls_5 T.na_5_states rfl (me_v (i := 0))) (me_neg me_int)) me_int)))
theorem sc_law_tells : FnScope ["live", "state", "deeds", "what", "told", "right", "row", "work"] ["live", "state", "deeds", "what"] (defScope s_law_tells) := ⟨rfl, rfl, rfl, by decide +kernel, rfl, by decide +kernel, by decide +kernel⟩
theorem ok_law_tells {P : Program} {w : World} {K : PySem.W.Frag} {mg : Str → Option Value} {base : Heap} {ca : CA} {fa : Nat → Addr} {fd : Nat → FuncData} (T : Fx K mg ca fa fd) (ok_law_same_ticks : FnOk P w K mg base CX0 4 (fa 32) (fd 32) ["found", "due"] (spM K ca 2 m_law_same_ticks)) (ok_liveday_plan : FnOk P w K mg base CX0 2 (fa 26) (fd 26) ["self"] (spM K ca 1 m_liveday_plan)) (ok_law_is_comings : FnOk P w K mg base CX0 4 (fa 36) (fd 36) ["found", "due"] (spM K ca 2 m_law_is_comings)) (ok_liveday_comings : FnOk P w K mg base CX0 2 (fa 27) (fd 27) ["self"] (spM K ca 1 m_liveday_comings)) (ok_row_parts : FnOk P w K mg base CX0 2 (fa 3) (fd 3) ["self"] (spM K ca 1 m_row_parts)) (ok_liveday_row : FnOk P w K mg base CX0 6 (fa 25) (fd 25) ["self"] (spM K ca 1 m_liveday_row)) (ok_law_is_int : FnOk P w K mg base CX0 2 (fa 31) (fd 31) ["found"] (spM K ca 1 m_law_is_int)) (ok_liveday_waiting : FnOk P w K mg base CX0 2 (fa 28) (fd 28) ["self"] (spM K ca 1 m_liveday_waiting)) (ok_liveday_minute : FnOk P w K mg base CX0 2 (fa 24) (fd 24) ["self"] (spM K ca 1 m_liveday_minute)) (ok_liveday_len : FnOk P w K mg base CX0 2 (fa 23) (fd 23) ["self"] (spM K ca 1 m_liveday_len)) : FnOk P w K mg base CX0 8 (fa 37) (fd 37) ["live", "state", "deeds", "what"] (spM K ca 4 m_law_tells) := by
  obtain ⟨_, pr_liveday_comings⟩ := T.pr_liveday_comings
  obtain ⟨_, pr_liveday_minute⟩ := T.pr_liveday_minute
  obtain ⟨_, pr_liveday_plan⟩ := T.pr_liveday_plan
  obtain ⟨_, pr_liveday_row⟩ := T.pr_liveday_row
  obtain ⟨_, pr_liveday_waiting⟩ := T.pr_liveday_waiting
  obtain ⟨_, pr_row_parts⟩ := T.pr_row_parts
  refine fn_cut (fn_ok0 (N := ["live", "state", "deeds", "what", "told", "right", "row", "work"]) (k := 7) T.fn_law_tells sc_law_tells fun cdv A outer s H E hr => ?_)
  have hN := sc_law_tells.nd
  have hc : (true : Bool) = true := rfl
  have hu := hu64 hr
  exact (mss_cons
 (ms_if (mt_cmp (mop_eq hu) (me_v (i := 3)) me_int) (mss_one
 (ms_ret (me_and (me_call (ps := ["found"]) ok_law_is_int ne_law_is_int (hr.mono (by decide)) T.mg_law_is_int T.kp_law_is_int T.bd_law_is_int .nil rvd_nil (ma_cons (me_lenO (c := 5) T.b_len T.fi_liveday_len T.if_liveday_len ok_liveday_len ne_liveday_len rfl (hr.mono (by decide)) T.bd_liveday_len (me_v (i := 0))) ma_nil)) (me_one (me_cmp (mop_eq hu) (me_lenO (c := 5) T.b_len T.fi_liveday_len T.if_liveday_len ok_liveday_len ne_liveday_len rfl (hr.mono (by decide)) T.bd_liveday_len (me_v (i := 0))) (me_v (i := 2))))))) mss_nil) (mss_cons
 (ms_if (mt_cmp (mop_eq hu) (me_v (i := 3)) me_int) (mss_one
 (ms_ret (me_and (me_call (ps := ["found"]) ok_law_is_int ne_law_is_int (hr.mono (by decide)) T.mg_law_is_int T.kp_law_is_int T.bd_law_is_int .nil rvd_nil (ma_cons (me_prop T.cls_5 pr_liveday_minute ok_liveday_minute ne_liveday_minute rfl (hr.mono (by decide)) T.bd_liveday_minute (me_v (i := 0))) ma_nil)) (me_one (me_cmp (mop_eq hu) (me_prop T.cls_5 pr_liveday_minute ok_liveday_minute ne_liveday_minute rfl (hr.mono (by decide)) T.bd_liveday_minute (me_v (i := 0))) (me_callB mc_len T.b_len (ma_cons (me_ix (me_v (i := 1)) me_int) ma_nil))))))) mss_nil) (mss_cons
 (ms_if (mt_cmp (mop_eq hu) (me_v (i := 3)) me_int) (mss_one
 (ms_ret (me_and (me_call (ps := ["found"]) ok_law_is_int ne_law_is_int (hr.mono (by decide)) T.mg_law_is_int T.kp_law_is_int T.bd_law_is_int .nil rvd_nil (ma_cons (me_prop T.cls_5 pr_liveday_waiting ok_liveday_waiting ne_liveday_waiting rfl (hr.mono (by decide)) T.bd_liveday_waiting (me_v (i := 0))) ma_nil)) (me_one (me_cmp (mop_eq hu) (me_prop T.cls_5 pr_liveday_waiting ok_liveday_waiting ne_liveday_waiting rfl (hr.mono (by decide)) T.bd_liveday_waiting (me_v (i := 0))) (me_ix (me_v (i := 1)) me_int)))))) mss_nil) (mss_cons
 (ms_if (mt_cmp (mop_eq hu) (me_v (i := 3)) me_int) (mss_cons
 (ms_set (i := 4) hN (me_prop T.cls_5 pr_liveday_plan ok_liveday_plan ne_liveday_plan rfl (hr.mono (by decide)) T.bd_liveday_plan (me_v (i := 0)))) (mss_one
 (ms_set (i := 5) hN (me_call (ps := ["found", "due"]) ok_law_same_ticks ne_law_same_ticks (hr.mono (by decide)) T.mg_law_same_ticks T.kp_law_same_ticks T.bd_law_same_ticks .nil rvd_nil (ma_cons (me_v (i := 4)) (ma_cons (me_ix (me_v (i := 1)) me_int) ma_nil)))))) (mss_one
 (ms_if (mt_cmp (mop_eq hu) (me_v (i := 3)) me_int) (mss_cons
 (ms_set (i := 4) hN (me_prop T.cls_5 pr_liveday_comings ok_liveday_comings ne_liveday_comings rfl (hr.mono (by decide)) T.bd_liveday_comings (me_v (i := 0)))) (mss_one
 (ms_set (i := 5) hN (me_call (ps := ["found", "due"]) ok_law_is_comings ne_law_is_comings (hr.mono (by decide)) T.mg_law_is_comings T.kp_law_is_comings T.bd_law_is_comings .nil rvd_nil (ma_cons (me_v (i := 4)) (ma_cons (me_ix (me_v (i := 1)) me_int) ma_nil)))))) (mss_cons
 (ms_set (i := 6) hN (me_prop T.cls_5 pr_liveday_row ok_liveday_row ne_liveday_row rfl (hr.mono (by decide)) T.bd_liveday_row (me_v (i := 0)))) (mss_cons
 (ms_if (mt_not (mt_val (me_isiC (c := 0) T.kit T.b_isinstance T.mg_Row (me_v (i := 6)) (by decide)))) (mss_one
 (ms_ret me_bl)) mss_nil) (mss_cons
 (ms_set (i := 4) hN (me_prop T.cls_0 pr_row_parts ok_row_parts ne_row_parts rfl (hr.mono (by decide)) T.bd_row_parts (me_v (i := 6)))) (mss_one
 (ms_set (i := 5) hN (me_call (ps := ["found", "due"]) ok_law_same_ticks ne_law_same_ticks (hr.mono (by decide)) T.mg_law_same_ticks T.kp_law_same_ticks T.bd_law_same_ticks .nil rvd_nil (ma_cons (me_v (i := 4)) (ma_cons (ML.frz (ml_sortR T.b_sorted (ma_cons (ML.frz (ml_lc (own := [("work", 7)]) hc hN (mi_list (me_ix (me_v (i := 1)) me_int)) (blk_mk (N := ["live", "state", "deeds", "what", "told", "right", "row", "work"]) (sc := defScope s_law_tells) (own := [("work", 7)])) (fun _ _ _ _ _ => (mg_nm hN)) (fun _ _ _ _ _ => (mts_one (mt_cmp mop_gtI (me_v (i := 7)) me_int))) (fun _ _ _ _ _ => (me_v (i := 7))) (by decide))) ma_nil))) ma_nil))))))))))) (mss_cons
 (ms_if (mt_val (me_v (i := 5))) (mss_cons
 (ms_expr (me_bm0 ty_l PySem.F.plainAttrs_list PySem.F.slot_list_reverse PySem.F.type_list_reverse mm_reverse (me_v (i := 4)))) (mss_one
 (ms_expr (me_bm ty_l PySem.F.plainAttrs_list PySem.F.slot_list_append PySem.F.type_list_append mm_append (me_v (i := 4)) (ma_cons me_int ma_nil))))) mss_nil) (mss_one
 (ms_ret (me_v (i := 5)))))))))
theorem sc_law_shows : FnScope ["live", "state", "deeds", "order", "asked", "what"] ["live", "state", "deeds", "order"] (defScope s_law_shows) := ⟨rfl, rfl, rfl, by decide +kernel, rfl, by decide +kernel, by decide +kernel⟩
theorem ok_law_shows {P : Program} {w : World} {K : PySem.W.Frag} {mg : Str → Option Value} {base : Heap} {ca : CA} {fa : Nat → Addr} {fd : Nat → FuncData} (T : Fx K mg ca fa fd) (ok_law_tells : FnOk P w K mg base CX0 8 (fa 37) (fd 37) ["live", "state", "deeds", "what"] (spM K ca 4 m_law_tells)) : FnOk P w K mg base CX0 10 (fa 38) (fd 38) ["live", "state", "deeds", "order"] (spM K ca 4 m_law_shows) := by
  refine fn_cut (fn_ok0 (N := ["live", "state", "deeds", "order", "asked", "what"]) (k := 9) T.fn_law_shows sc_law_shows fun cdv A outer s H E hr => ?_)
  have hN := sc_law_shows.nd
  have hc : (true : Bool) = true := rfl
  have hu := hu64 hr
  exact (mss_cons
 (ms_set (i := 4) hN (ML.own (ml_cat (ML.frz (ml_listRg hc T.b_list T.b_range me_int)) (ML.frz (ml_listRg hc T.b_list T.b_range me_int))))) (mss_cons
 (ms_if (mt_cmp mop_gtI (me_v (i := 3)) me_int) (mss_one
 (ms_expr (me_bm0 ty_l PySem.F.plainAttrs_list PySem.F.slot_list_reverse PySem.F.type_list_reverse mm_reverse (me_v (i := 4))))) mss_nil) (mss_cons
 (ms_for PassesOwn.never hc (mi_list (ML.frz (ml_sl (me_v (i := 4)) (mo_some (me_op mop_divI (me_v (i := 3)) me_int)) mo_none))) (mg_nm hN) (mss_one
 (ms_if (mt_not (mt_val (me_call (ps := ["live", "state", "deeds", "what"]) ok_law_tells ne_law_tells (hr.mono (by decide)) T.mg_law_tells T.kp_law_tells T.bd_law_tells .nil rvd_nil (ma_cons (me_v (i := 0)) (ma_cons (me_v (i := 1)) (ma_cons (me_v (i := 2)) (ma_cons (me_v (i := 5)) ma_nil))))))) (mss_one
 (ms_ret me_bl)) mss_nil))) (mss_one
 (ms_ret me_bl)))))
theorem sc_law_next : FnScope ["name", "works", "last", "there", "person", "left"] ["name", "works", "last"] (defScope s_law_next) := ⟨rfl, rfl, rfl, by decide +kernel, rfl, by decide +kernel, by decide +kernel⟩
theorem ok_law_next {P : Program} {w : World} {K : PySem.W.Frag} {mg : Str → Option Value} {base : Heap} {ca : CA} {fa : Nat → Addr} {fd : Nat → FuncData} (T : Fx K mg ca fa fd)  : FnOk P w K mg base CX0 2 (fa 33) (fd 33) ["name", "works", "last"] (spM K ca 3 m_law_next) := by
  refine fn_cut (fn_ok0 (N := ["name", "works", "last", "there", "person", "left"]) (k := 1) T.fn_law_next sc_law_next fun cdv A outer s H E hr => ?_)
  have hN := sc_law_next.nd
  have hc : (true : Bool) = true := rfl
  have hu := hu64 hr
  exact (mss_cons
 (by first | exact ms_set (i := 3) hN (ML.frz (ml_lc (own := [("person", 4)]) hc hN (mi_rg T.b_range (ma_cons (me_callB mc_len T.b_len (ma_cons (me_v (i := 1)) ma_nil)) ma_nil)) (blk_mk (N := ["name", "works", "last", "there", "person", "left"]) (sc := defScope s_law_next) (own := [("person", 4)])) (fun _ _ _ _ _ => (mg_nm hN)) (fun _ _ _ _ _ => (mts_one (mt_cmp mop_gtI (me_ix (me_v (i := 1)) (me_v (i := 4))) me_int))) (fun _ _ _ _ _ => (me_v (i := 4))) (by decide))) | exact ms_setLc (j := 3) (own := [("person", 4)]) hc hN rfl rfl rfl (mi_rg T.b_range (ma_cons (me_callB mc_len T.b_len (ma_cons (me_v (i := 1)) ma_nil)) ma_nil)) (blk_mk (N := ["name", "works", "last", "there", "person", "left"]) (sc := defScope s_law_next) (own := [("person", 4)])) (fun _ _ _ _ _ => (mg_nm hN)) (fun _ _ _ _ _ => (mts_one (mt_cmp mop_gtI (me_ix (me_v (i := 1)) (me_v (i := 4))) me_int))) (fun _ _ _ _ _ => (me_v (i := 4))) (by decide)) (mss_cons
 (ms_if (mt_cmp (mop_eq hu) (me_v (i := 3)) (ML.frz (ml_lst ma_nil))) (mss_one
 (ms_ret me_non)) mss_nil) (mss_cons
 (ms_if (mt_cmp (mop_eq hu) (me_v (i := 0)) me_str) (mss_one
 (ms_ret (me_ix (ML.frz (ml_cat (ML.frz (ml_lc (own := [("person", 4)]) hc hN (mi_list (me_v (i := 3))) (blk_mk (N := ["name", "works", "last", "there", "person", "left"]) (sc := defScope s_law_next) (own := [("person", 4)])) (fun _ _ _ _ _ => (mg_nm hN)) (fun _ _ _ _ _ => (mts_one (mt_cmp mop_gtI (me_v (i := 4)) (me_v (i := 2))))) (fun _ _ _ _ _ => (me_v (i := 4))) (by decide))) (me_v (i := 3)))) me_int))) mss_nil) (mss_cons
 (ms_if (mt_cmp (mop_eq hu) (me_v (i := 0)) me_str) (mss_one
 (ms_ret (me_ix (me_v (i := 3)) me_int))) mss_nil) (mss_cons
 (by first | exact ms_set (i := 5) hN (ML.frz (ml_lc (own := [("person", 4)]) hc hN (mi_list (me_v (i := 3))) (blk_mk (N := ["name", "works", "last", "there", "person", "left"]) (sc := defScope s_law_next) (own := [("person", 4)])) (fun _ _ _ _ _ => (mg_nm hN)) (fun _ _ _ _ _ => mts_nil) (fun _ _ _ _ _ => (me_ix (me_v (i := 1)) (me_v (i := 4)))) (by decide))) | exact ms_setLc (j := 5) (own := [("person", 4)]) hc hN rfl rfl rfl (mi_list (me_v (i := 3))) (blk_mk (N := ["name", "works", "last", "there", "person", "left"]) (sc := defScope s_law_next) (own := [("person", 4)])) (fun _ _ _ _ _ => (mg_nm hN)) (fun _ _ _ _ _ => mts_nil) (fun _ _ _ _ _ => (me_ix (me_v (i := 1)) (me_v (i := 4)))) (by decide)) (mss_one
 (ms_ret (me_ix (me_v (i := 3)) (me_bm ty_l PySem.F.plainAttrs_list PySem.F.slot_list_index PySem.F.type_list_index mm_index (me_v (i := 5)) (ma_cons (me_ix (ML.frz (ml_lst (ma_cons (me_callB (mc_min hc) T.b_min (ma_cons (me_v (i := 5)) ma_nil)) (ma_cons (me_callB (mc_max hc) T.b_max (ma_cons (me_v (i := 5)) ma_nil)) ma_nil)))) (me_callT mc_int T.b_int (ma_cons (me_cmp (mop_eq hu) (me_v (i := 0)) me_str) ma_nil))) ma_nil))))))))))
theorem sc_law_passed : FnScope ["name", "state", "comings", "plan", "works", "last", "total", "person", "people", "work"] ["name", "state"] (defScope s_law_passed) := ⟨rfl, rfl, rfl, by decide +kernel, rfl, by decide +kernel, by decide +kernel⟩
theorem ok_law_passed {P : Program} {w : World} {K : PySem.W.Frag} {mg : Str → Option Value} {base : Heap} {ca : CA} {fa : Nat → Addr} {fd : Nat → FuncData} (T : Fx K mg ca fa fd) (ok_law_next : FnOk P w K mg base CX0 2 (fa 33) (fd 33) ["name", "works", "last"] (spM K ca 3 m_law_next)) : FnOk P w K mg base CX0 4 (fa 35) (fd 35) ["name", "state"] (spM K ca 2 m_law_passed) := by
  refine fn_cut (fn_ok0 (N := ["name", "state", "comings", "plan", "works", "last", "total", "person", "people", "work"]) (k := 3) T.fn_law_passed sc_law_passed fun cdv A outer s H E hr => ?_)
  have hN := sc_law_passed.nd
  have hc : (true : Bool) = true := rfl
  have hu := hu64 hr
  exact (mss_cons
 (ms_asg (me_v (i := 1)) (mg_tup hc (mgs_cons (mg_nm hN) (mgs_cons (mg_nm hN) (mgs_cons (mg_nm hN) (mgs_cons (mg_nm hN) (mgs_cons (mg_nm hN) mgs_nil))))))) (mss_cons
 (ms_set (i := 7) hN (me_call (ps := ["name", "works", "last"]) ok_law_next ne_law_next (hr.mono (by decide)) T.mg_law_next T.kp_law_next T.bd_law_next .nil rvd_nil (ma_cons (me_v (i := 0)) (ma_cons (me_v (i := 4)) (ma_cons (me_v (i := 5)) ma_nil))))) (mss_cons
 (ms_set (i := 8) hN (me_callB mc_len T.b_len (ma_cons (ML.frz (ml_lc (own := [("work", 9)]) hc hN (mi_list (me_v (i := 4))) (blk_mk (N := ["name", "state", "comings", "plan", "works", "last", "total", "person", "people", "work"]) (sc := defScope s_law_passed) (own := [("work", 9)])) (fun _ _ _ _ _ => (mg_nm hN)) (fun _ _ _ _ _ => (mts_one (mt_cmp mop_gtI (me_v (i := 9)) me_int))) (fun _ _ _ _ _ => (me_v (i := 9))) (by decide))) ma_nil))) (mss_cons
 (ms_if (mt_cmp mop_notN (me_v (i := 7)) me_non) (mss_cons
 (ms_set (i := 4) hN (ML.frz (ml_cat (ML.frz (ml_cat (ML.frz (ml_sl (me_v (i := 4)) mo_none (mo_some (me_v (i := 7))))) (ML.frz (ml_lst (ma_cons (me_op mop_subI (me_ix (me_v (i := 4)) (me_v (i := 7))) me_int) ma_nil))))) (ML.frz (ml_sl (me_v (i := 4)) (mo_some (me_op mop_add (me_v (i := 7)) me_int)) mo_none))))) (mss_one
 (ms_set (i := 5) hN (me_v (i := 7))))) mss_nil) (mss_one
 (ms_ret (me_tup (ma_cons (me_v (i := 2)) (ma_cons (ML.frz (ml_cat (me_v (i := 3)) (ML.frz (ml_lst (ma_cons (me_v (i := 7)) ma_nil))))) (ma_cons (me_v (i := 4)) (ma_cons (me_v (i := 5)) (ma_cons (me_op mop_add (me_v (i := 6)) (me_v (i := 8))) ma_nil))))))))))))
theorem sc_liveday_come : FnScope ["self", "work", "comings", "plan", "left", "last", "total"] ["self", "work"] (defScope s_liveday_come) := ⟨rfl, rfl, rfl, by decide +kernel, rfl, by decide +kernel, by decide +kernel⟩
theorem ok_liveday_come {P : Program} {w : World} {K : PySem.W.Frag} {mg : Str → Option Value} {base : Heap} {ca : CA} {fa : Nat → Addr} {fd : Nat → FuncData} (T : Fx K mg ca fa fd)  : FnOk P w K mg base (L2.CX P w) 2 (fa 20) (fd 20) ["self", "work"] (spM K ca 2 m_liveday_come) := by
  refine fn_cutX (fn_okX (N := ["self", "work", "comings", "plan", "left", "last", "total"]) (k := 1) T.fn_liveday_come sc_liveday_come fun cdv A outer s H E hr tk po => ?_)
  have hN := sc_liveday_come.nd
  have hc : (true : Bool) = true := rfl
  have hu := hu64 hr
  exact (mss_cons
 (ms_if (MW.mt (mw_or (mt_not (mt_val (me_isiB (c := .int) T.kit T.b_isinstance T.b_int (me_v (i := 1)) rfl rfl))) (mw_or (mt_val (me_isiB (c := .bl) T.kit T.b_isinstance T.b_bool (me_v (i := 1)) rfl rfl)) (mw_or1 (mt_cmp mop_ltI (me_v (i := 1)) me_int))))) (mss_one
 (ms_raise (c := 14) hc tk T.xf_14 T.mg_InvalidWork)) mss_nil) (mss_cons
 (ms_asg (me_ix (me_fld (c := 5) (i := 1) T.cls_5 T.na_5_states rfl (me_v (i := 0))) (me_neg me_int)) (mg_tup hc (mgs_cons (mg_nm hN) (mgs_cons (mg_nm hN) (mgs_cons (mg_nm hN) (mgs_cons (mg_nm hN) (mgs_cons (mg_nm hN) mgs_nil))))))) (mss_cons
 (ms_expr (me_bm ty_l PySem.F.plainAttrs_list PySem.F.slot_list_append PySem.F.type_list_append mm_append (me_fld (c := 5) (i := 1) T.cls_5 T.na_5_states rfl (me_v (i := 0))) (ma_cons (me_tup (ma_cons (ML.frz (ml_cat (me_v (i := 2)) (ML.frz (ml_lst (ma_cons (me_tup (ma_cons (me_callB mc_len T.b_len (ma_cons (me_v (i := 3)) ma_nil)) (ma_cons (me_v (i := 1)) ma_nil))) ma_nil))))) (ma_cons (me_v (i := 3)) (ma_cons (ML.frz (ml_cat (me_v (i := 4)) (ML.frz (ml_lst (ma_cons (me_v (i := 1)) ma_nil))))) (ma_cons (me_v (i := 5)) (ma_cons (me_v (i := 6)) ma_nil)))))) ma_nil))) (mss_one
 (ms_ret (me_callB mc_len T.b_len (ma_cons (me_v (i := 2)) ma_nil)))))))
theorem sc_liveday_back : FnScope ["self", "count"] ["self", "count"] (defScope s_liveday_back) := ⟨rfl, rfl, rfl, by decide +kernel, rfl, by decide +kernel, by decide +kernel⟩
theorem ok_liveday_back {P : Program} {w : World} {K : PySem.W.Frag} {mg : Str → Option Value} {base : Heap} {ca : CA} {fa : Nat → Addr} {fd : Nat → FuncData} (T : Fx K mg ca fa fd)  : FnOk P w K mg base CX0 2 (fa 22) (fd 22) ["self", "count"] (spM K ca 2 m_liveday_back) := by
  refine id (fn_ok0 (N := ["self", "count"]) (k := 1) T.fn_liveday_back sc_liveday_back fun cdv A outer s H E hr => ?_)
  have hN := sc_liveday_back.nd
  have hc : (true : Bool) = true := rfl
  have hu := hu64 hr
  exact (mss_cons
 (ms_if (mt_cmp mop_geI (me_v (i := 1)) (me_callB mc_len T.b_len (ma_cons (me_fld (c := 5) (i := 1) T.cls_5 T.na_5_states rfl (me_v (i := 0))) ma_nil))) (mss_one
 ms_never) mss_nil) (mss_one
 (ms_setFld (c := 5) (i := 1) T.cls_5 T.na_5_states rfl (me_v (i := 0)) (ML.own (ml_sl (me_fld (c := 5) (i := 1) T.cls_5 T.na_5_states rfl (me_v (i := 0))) mo_none (mo_some (me_op mop_subI (me_callB mc_len T.b_len (ma_cons (me_fld (c := 5) (i := 1) T.cls_5 T.na_5_states rfl (me_v (i := 0))) ma_nil)) (me_v (i := 1)))))))))
theorem sc_law_refused : FnScope ["live", "work", "told", "other", "e"] ["live", "work"] (defScope s_law_refused) := ⟨rfl, rfl, rfl, by decide +kernel, rfl, by decide +kernel, by decide +kernel⟩
theorem ok_law_refused {P : Program} {w : World} {K : PySem.W.Frag} {mg : Str → Option Value} {base : Heap} {ca : CA} {fa : Nat → Addr} {fd : Nat → FuncData} (T : Fx K mg ca fa fd) (ok_liveday_come : FnOk P w K mg base (L2.CX P w) 2 (fa 20) (fd 20) ["self", "work"] (spM K ca 2 m_liveday_come)) : FnOk P w K mg base CX0 4 (fa 40) (fd 40) ["live", "work"] (spM K ca 2 m_law_refused) := by
  refine fn_cut (fn_ok0 (N := ["live", "work", "told", "other", "e"]) (k := 3) T.fn_law_refused sc_law_refused fun cdv A outer s H E hr => ?_)
  have hN := sc_law_refused.nd
  have hc : (true : Bool) = true := rfl
  have hu := hu64 hr
  exact (mss_cons
 (by first | exact ms_par (i := 2) (j := 3) hc hN (by decide) (ma_cons me_bl (ma_cons (ML.own (ml_lst ma_nil)) ma_nil)) | exact ms_asg (me_tup (ma_cons me_bl (ma_cons (ML.own (ml_lst ma_nil)) ma_nil))) (mg_tup hc (mgs_cons (mg_nm hN) (mgs_cons (mg_nm hN) mgs_nil)))) (mss_cons
 (ms_tryA (i := 4) (cc := 14) (ids := [14]) (sub := fun c => decide (c = 14)) rfl rfl hN rfl rfl (show Names _ "InvalidWork" _ from ⟨rfl, by decide, .inl T.mg_InvalidWork⟩) takes0 (List.forall_mem_cons.mpr ⟨T.xm_14_14, (fun _ h => absurd h List.not_mem_nil)⟩) (fun W pn xe tk po => (mss_one
 (ms_expr (me_methX (c := 5) (ps := ["work"]) T.cls_5 T.mt_liveday_come (by decide +kernel) ok_liveday_come tk (hr.mono (by decide)) T.bd_liveday_come .nil rvd_nil (me_v (i := 0)) (ma_cons (me_v (i := 1)) ma_nil))))) (fun c a oe pn hc2 _ hz hv => by rw [List.mem_singleton.mp hc2] at hz; exact (mss_cons
 (ms_set (i := 2) hN (me_and (me_isE (c := 14) T.xc_14 hz hv T.ko_14_DayError T.b_isinstance T.mg_DayError (me_v (i := 4))) (me_one (me_isEB (c := 14) T.xc_14 hz hv T.ko_14_ValueError T.b_isinstance T.b_ValueError (me_v (i := 4)))))) (mss_cons
 (ms_set (i := 3) hN (ML.own (ml_lst (ma_cons (me_isET (c := 14) (cs := [ca 21, ca 13, ca 12, ca 16, ca 11]) T.xc_14 hz hv (kitAny_no (List.forall_mem_cons.mpr ⟨T.ko_14_InvalidCommand, (List.forall_mem_cons.mpr ⟨T.ko_14_InvalidDay, (List.forall_mem_cons.mpr ⟨T.ko_14_InvalidDeed, (List.forall_mem_cons.mpr ⟨T.ko_14_InvalidLines, (List.forall_mem_cons.mpr ⟨T.ko_14_InvalidMove, (fun _ h => absurd h List.not_mem_nil)⟩)⟩)⟩)⟩)⟩)) T.b_isinstance (ClsNames.cons T.mg_InvalidCommand rfl (by decide) rfl (ClsNames.cons T.mg_InvalidDay rfl (by decide) rfl (ClsNames.cons T.mg_InvalidDeed rfl (by decide) rfl (ClsNames.cons T.mg_InvalidLines rfl (by decide) rfl (ClsNames.cons T.mg_InvalidMove rfl (by decide) rfl ClsNames.nil))))) (Nat.le_of_ble_eq_true rfl) (me_v (i := 4))) ma_nil)))) (mss_cons
 (ms_expr (me_bm ty_l PySem.F.plainAttrs_list PySem.F.slot_list_append PySem.F.type_list_append mm_append (me_v (i := 3)) (ma_cons (me_isET (c := 14) (cs := [ca 15, ca 23, ca 10, ca 20]) T.xc_14 hz hv (kitAny_no (List.forall_mem_cons.mpr ⟨T.ko_14_InvalidOrder, (List.forall_mem_cons.mpr ⟨T.ko_14_InvalidPlan, (List.forall_mem_cons.mpr ⟨T.ko_14_InvalidRow, (List.forall_mem_cons.mpr ⟨T.ko_14_InvalidText, (fun _ h => absurd h List.not_mem_nil)⟩)⟩)⟩)⟩)) T.b_isinstance (ClsNames.cons T.mg_InvalidOrder rfl (by decide) rfl (ClsNames.cons T.mg_InvalidPlan rfl (by decide) rfl (ClsNames.cons T.mg_InvalidRow rfl (by decide) rfl (ClsNames.cons T.mg_InvalidText rfl (by decide) rfl ClsNames.nil)))) (Nat.le_of_ble_eq_true rfl) (me_v (i := 4))) ma_nil))) (mss_one
 (ms_expr (me_bm ty_l PySem.F.plainAttrs_list PySem.F.slot_list_append PySem.F.type_list_append mm_append (me_v (i := 3)) (ma_cons (me_isET (c := 14) (cs := [ca 18, ca 17, ca 22, ca 19]) T.xc_14 hz hv (kitAny_no (List.forall_mem_cons.mpr ⟨T.ko_14_NotEvener, (List.forall_mem_cons.mpr ⟨T.ko_14_NotFewer, (List.forall_mem_cons.mpr ⟨T.ko_14_NotReady, (List.forall_mem_cons.mpr ⟨T.ko_14_NothingToUndo, (fun _ h => absurd h List.not_mem_nil)⟩)⟩)⟩)⟩)) T.b_isinstance (ClsNames.cons T.mg_NotEvener rfl (by decide) rfl (ClsNames.cons T.mg_NotFewer rfl (by decide) rfl (ClsNames.cons T.mg_NotReady rfl (by decide) rfl (ClsNames.cons T.mg_NothingToUndo rfl (by decide) rfl ClsNames.nil)))) (Nat.le_of_ble_eq_true rfl) (me_v (i := 4))) ma_nil))))))))) (mss_one
 (ms_ret (me_and (me_v (i := 2)) (me_one (me_cmp mop_notin me_bl (me_v (i := 3)))))))))
theorem sc_next_person : FnScope ["rule", "left", "last", "able", "k", "behind"] ["rule", "left", "last"] (defScope s_next_person) := ⟨rfl, rfl, rfl, by decide +kernel, rfl, by decide +kernel, by decide +kernel⟩
theorem ok_next_person {P : Program} {w : World} {K : PySem.W.Frag} {mg : Str → Option Value} {base : Heap} {ca : CA} {fa : Nat → Addr} {fd : Nat → FuncData} (T : Fx K mg ca fa fd)  : FnOk P w K mg base CX0 2 (fa 18) (fd 18) ["rule", "left", "last"] (spM K ca 3 m_next_person) := by
  refine fn_cut (fn_ok0 (N := ["rule", "left", "last", "able", "k", "behind"]) (k := 1) T.fn_next_person sc_next_person fun cdv A outer s H E hr => ?_)
  have hN := sc_next_person.nd
  have hc : (true : Bool) = true := rfl
  have hu := hu64 hr
  exact (mss_cons
 (by first | exact ms_set (i := 3) hN (ML.frz (ml_lc (own := [("k", 4)]) hc hN (mi_rg T.b_range (ma_cons (me_callB mc_len T.b_len (ma_cons (me_v (i := 1)) ma_nil)) ma_nil)) (blk_mk (N := ["rule", "left", "last", "able", "k", "behind"]) (sc := defScope s_next_person) (own := [("k", 4)])) (fun _ _ _ _ _ => (mg_nm hN)) (fun _ _ _ _ _ => (mts_one (mt_cmp mop_gtI (me_ix (me_v (i := 1)) (me_v (i := 4))) me_int))) (fun _ _ _ _ _ => (me_v (i := 4))) (by decide))) | exact ms_setLc (j := 3) (own := [("k", 4)]) hc hN rfl rfl rfl (mi_rg T.b_range (ma_cons (me_callB mc_len T.b_len (ma_cons (me_v (i := 1)) ma_nil)) ma_nil)) (blk_mk (N := ["rule", "left", "last", "able", "k", "behind"]) (sc := defScope s_next_person) (own := [("k", 4)])) (fun _ _ _ _ _ => (mg_nm hN)) (fun _ _ _ _ _ => (mts_one (mt_cmp mop_gtI (me_ix (me_v (i := 1)) (me_v (i := 4))) me_int))) (fun _ _ _ _ _ => (me_v (i := 4))) (by decide)) (mss_cons
 (ms_if (mt_cmp (mop_eq hu) (me_v (i := 3)) (ML.frz (ml_lst ma_nil))) (mss_one
 (ms_ret me_non)) mss_nil) (mss_cons
 (ms_if (mt_val (me_isiC (c := 1) T.kit T.b_isinstance T.mg_Shortest (me_v (i := 0)) (by decide))) (mss_one
 (ms_ret (me_ix (me_callB (mc_minP hc hu) T.b_min (ma_cons (ML.frz (ml_lc (own := [("k", 4)]) hc hN (mi_list (me_v (i := 3))) (blk_mk (N := ["rule", "left", "last", "able", "k", "behind"]) (sc := defScope s_next_person) (own := [("k", 4)])) (fun _ _ _ _ _ => (mg_nm hN)) (fun _ _ _ _ _ => mts_nil) (fun _ _ _ _ _ => (me_tup (ma_cons (me_ix (me_v (i := 1)) (me_v (i := 4))) (ma_cons (me_v (i := 4)) ma_nil)))) (by decide))) ma_nil)) me_int))) mss_nil) (mss_cons
 (ms_if (mt_val (me_isiC (c := 3) T.kit T.b_isinstance T.mg_Longest (me_v (i := 0)) (by decide))) (mss_one
 (ms_ret (me_ix (me_callB (mc_minP hc hu) T.b_min (ma_cons (ML.frz (ml_lc (own := [("k", 4)]) hc hN (mi_list (me_v (i := 3))) (blk_mk (N := ["rule", "left", "last", "able", "k", "behind"]) (sc := defScope s_next_person) (own := [("k", 4)])) (fun _ _ _ _ _ => (mg_nm hN)) (fun _ _ _ _ _ => mts_nil) (fun _ _ _ _ _ => (me_tup (ma_cons (me_neg (me_ix (me_v (i := 1)) (me_v (i := 4)))) (ma_cons (me_v (i := 4)) ma_nil)))) (by decide))) ma_nil)) me_int))) mss_nil) (mss_cons
 (ms_if (mt_val (me_isiC (c := 4) T.kit T.b_isinstance T.mg_Turns (me_v (i := 0)) (by decide))) (mss_cons
 (by first | exact ms_set (i := 5) hN (ML.frz (ml_lc (own := [("k", 4)]) hc hN (mi_list (me_v (i := 3))) (blk_mk (N := ["rule", "left", "last", "able", "k", "behind"]) (sc := defScope s_next_person) (own := [("k", 4)])) (fun _ _ _ _ _ => (mg_nm hN)) (fun _ _ _ _ _ => (mts_one (mt_cmp mop_gtI (me_v (i := 4)) (me_v (i := 2))))) (fun _ _ _ _ _ => (me_v (i := 4))) (by decide))) | exact ms_setLc (j := 5) (own := [("k", 4)]) hc hN rfl rfl rfl (mi_list (me_v (i := 3))) (blk_mk (N := ["rule", "left", "last", "able", "k", "behind"]) (sc := defScope s_next_person) (own := [("k", 4)])) (fun _ _ _ _ _ => (mg_nm hN)) (fun _ _ _ _ _ => (mts_one (mt_cmp mop_gtI (me_v (i := 4)) (me_v (i := 2))))) (fun _ _ _ _ _ => (me_v (i := 4))) (by decide)) (mss_one
 (ms_ret (me_ix (me_op mop_add (me_v (i := 5)) (me_v (i := 3))) me_int)))) mss_nil) (mss_one
 (ms_ret (me_ix (me_v (i := 3)) me_int))))))))
theorem sc_liveday_over : FnScope ["self", "comings", "plan", "left", "last", "total", "people", "work", "person"] ["self"] (defScope s_liveday_over) := ⟨rfl, rfl, rfl, by decide +kernel, rfl, by decide +kernel, by decide +kernel⟩
theorem ok_liveday_over {P : Program} {w : World} {K : PySem.W.Frag} {mg : Str → Option Value} {base : Heap} {ca : CA} {fa : Nat → Addr} {fd : Nat → FuncData} (T : Fx K mg ca fa fd) (ok_next_person : FnOk P w K mg base CX0 2 (fa 18) (fd 18) ["rule", "left", "last"] (spM K ca 3 m_next_person)) : FnOk P w K mg base CX0 4 (fa 21) (fd 21) ["self"] (spM K ca 1 m_liveday_over) := by
  refine fn_cut (fn_ok0 (N := ["self", "comings", "plan", "left", "last", "total", "people", "work", "person"]) (k := 3) T.fn_liveday_over sc_liveday_over fun cdv A outer s H E hr => ?_)
  have hN := sc_liveday_over.nd
  have hc : (true : Bool) = true := rfl
  have hu := hu64 hr
  exact (mss_cons
 (ms_asg (me_ix (me_fld (c := 5) (i := 1) T.cls_5 T.na_5_states rfl (me_v (i := 0))) (me_neg me_int)) (mg_tup hc (mgs_cons (mg_nm hN) (mgs_cons (mg_nm hN) (mgs_cons (mg_nm hN) (mgs_cons (mg_nm hN) (mgs_cons (mg_nm hN) mgs_nil))))))) (mss_cons
 (ms_set (i := 6) hN (me_callB mc_len T.b_len (ma_cons (ML.frz (ml_lc (own := [("work", 7)]) hc hN (mi_list (ME.still (me_v (i := 3)))) (blk_mk (N := ["self", "comings", "plan", "left", "last", "total", "people", "work", "person"]) (sc := defScope s_liveday_over) (own := [("work", 7)])) (fun _ _ _ _ _ => (mg_nm hN)) (fun _ _ _ _ _ => (mts_one (mt_cmp mop_gtI (me_v (i := 7)) me_int))) (fun _ _ _ _ _ => (me_v (i := 7))) (by decide))) ma_nil))) (mss_cons
 (ms_set (i := 8) hN (me_call (ps := ["rule", "left", "last"]) ok_next_person ne_next_person (hr.mono (by decide)) T.mg_next_person T.kp_next_person T.bd_next_person .nil rvd_nil (ma_cons (me_fld (c := 5) (i := 0) T.cls_5 T.na_5_rule rfl (me_v (i := 0))) (ma_cons (ML.frz (ml_callT mc_list T.b_list (ma_cons (ME.still (me_v (i := 3))) ma_nil))) (ma_cons (me_v (i := 4)) ma_nil))))) (mss_cons
 (ms_if (mt_cmp mop_notN (me_v (i := 8)) me_non) (mss_cons
 (ms_set (i := 4) hN (me_v (i := 8))) (mss_cons
 (ms_set (i := 3) hN (ML.own (ml_callT mc_list T.b_list (ma_cons (ME.still (me_v (i := 3))) ma_nil)))) (mss_one
 (ms_setIx (me_op mop_subI (me_ix (me_v (i := 3)) (me_v (i := 8))) me_int) (me_v (i := 3)) (me_v (i := 8)))))) mss_nil) (mss_cons
 (ms_expr (me_bm ty_l PySem.F.plainAttrs_list PySem.F.slot_list_append PySem.F.type_list_append mm_append (me_fld (c := 5) (i := 1) T.cls_5 T.na_5_states rfl (me_v (i := 0))) (ma_cons (me_tup (ma_cons (me_v (i := 1)) (ma_cons (ML.frz (ml_cat (me_v (i := 2)) (ML.frz (ml_lst (ma_cons (me_v (i := 8)) ma_nil))))) (ma_cons (ME.still (me_v (i := 3))) (ma_cons (me_v (i := 4)) (ma_cons (me_op mop_add (me_v (i := 5)) (me_v (i := 6))) ma_nil)))))) ma_nil))) (mss_one
 (ms_ret (me_v (i := 8)))))))))
theorem sc_law_right : FnScope ["pool", "name", "live", "state", "deeds", "turn", "far", "first", "values", "odd", "work", "great", "further"] ["pool"] (defScope s_law_right) := ⟨rfl, rfl, rfl, by decide +kernel, rfl, by decide +kernel, by decide +kernel⟩
theorem ok_law_right {P : Program} {w : World} {K : PySem.W.Frag} {mg : Str → Option Value} {base : Heap} {ca : CA} {fa : Nat → Addr} {fd : Nat → FuncData} (T : Fx K mg ca fa fd) (ok_liveday_back : FnOk P w K mg base CX0 2 (fa 22) (fd 22) ["self", "count"] (spM K ca 2 m_liveday_back)) (ok_law_shows : FnOk P w K mg base CX0 10 (fa 38) (fd 38) ["live", "state", "deeds", "order"] (spM K ca 4 m_law_shows)) (ok_law_pick : FnOk P w K mg base CX0 2 (fa 30) (fd 30) ["pool", "many"] (spM K ca 2 m_law_pick)) (ok_liveday_come : FnOk P w K mg base (L2.CX P w) 2 (fa 20) (fd 20) ["self", "work"] (spM K ca 2 m_liveday_come)) (ok_law_came : FnOk P w K mg base CX0 2 (fa 34) (fd 34) ["state", "work"] (spM K ca 2 m_law_came)) (ok_law_same_ticks : FnOk P w K mg base CX0 4 (fa 32) (fd 32) ["found", "due"] (spM K ca 2 m_law_same_ticks)) (ok_liveday_over : FnOk P w K mg base CX0 4 (fa 21) (fd 21) ["self"] (spM K ca 1 m_liveday_over)) (ok_law_passed : FnOk P w K mg base CX0 4 (fa 35) (fd 35) ["name", "state"] (spM K ca 2 m_law_passed)) (ok_law_refused : FnOk P w K mg base CX0 4 (fa 40) (fd 40) ["live", "work"] (spM K ca 2 m_law_refused)) (ok_row_init : FnOk P w K mg base CX0 4 (fa 2) (fd 2) ["self", "items"] (spM K ca 2 m_row_init)) (ok_liveday_init : FnOk P w K mg base CX0 2 (fa 19) (fd 19) ["self", "rule"] (spM K ca 2 m_liveday_init)) (ok_law_rule : FnOk P w K mg base CX0 2 (fa 39) (fd 39) ["name"] (spM K ca 1 m_law_rule)) : FnOk P w K mg base CX0 12 (fa 41) (fd 41) ["pool"] (spM K ca 1 m_law_right) := by
  refine fn_cut (fn_ok0 (N := ["pool", "name", "live", "state", "deeds", "turn", "far", "first", "values", "odd", "work", "great", "further"]) (k := 11) T.fn_law_right sc_law_right fun cdv A outer s H E hr => ?_)
  have hN := sc_law_right.nd
  have hc : (true : Bool) = true := rfl
  have hu := hu64 hr
  obtain ⟨_, dv_liveday_back, bd_liveday_back⟩ := T.bd_liveday_back
  exact (mss_cons
 (ms_set (i := 1) hN (me_ix (ML.frz (ml_lst (ma_cons me_str (ma_cons me_str (ma_cons me_str (ma_cons me_str ma_nil)))))) (me_call (ps := ["pool", "many"]) ok_law_pick ne_law_pick (hr.mono (by decide)) T.mg_law_pick T.kp_law_pick T.bd_law_pick .nil rvd_nil (ma_cons (me_v (i := 0)) (ma_cons me_int ma_nil))))) (mss_cons
 (ms_set (i := 2) hN (me_new (c := 5) (ps := ["rule"]) T.mk_5 ok_liveday_init ne_liveday_init (hr.mono (by decide)) T.mg_LiveDay T.bd_liveday_init .nil rvd_nil (ma_cons (me_call (ps := ["name"]) ok_law_rule ne_law_rule (hr.mono (by decide)) T.mg_law_rule T.kp_law_rule T.bd_law_rule .nil rvd_nil (ma_cons (me_v (i := 1)) ma_nil)) ma_nil))) (mss_cons
 (by first | exact ms_par (i := 3) (j := 4) hc hN (by decide) (ma_cons (me_tup (ma_cons (ML.frz (ml_lst ma_nil)) (ma_cons (ML.frz (ml_lst ma_nil)) (ma_cons (ML.frz (ml_lst ma_nil)) (ma_cons (me_neg me_int) (ma_cons me_int ma_nil)))))) (ma_cons me_int ma_nil)) | exact ms_asg (me_tup (ma_cons (me_tup (ma_cons (ML.frz (ml_lst ma_nil)) (ma_cons (ML.frz (ml_lst ma_nil)) (ma_cons (ML.frz (ml_lst ma_nil)) (ma_cons (me_neg me_int) (ma_cons me_int ma_nil)))))) (ma_cons me_int ma_nil))) (mg_tup hc (mgs_cons (mg_nm hN) (mgs_cons (mg_nm hN) mgs_nil)))) (mss_cons
 (ms_for PassesOwn.never hc (mi_rg T.b_range (ma_cons (me_op mop_add me_int (me_call (ps := ["pool", "many"]) ok_law_pick ne_law_pick (hr.mono (by decide)) T.mg_law_pick T.kp_law_pick T.bd_law_pick .nil rvd_nil (ma_cons (me_v (i := 0)) (ma_cons me_int ma_nil)))) ma_nil)) (mg_nm hN) (mss_cons
 (ms_set (i := 6) hN (me_op mop_subI (me_neg me_int) (me_call (ps := ["pool", "many"]) ok_law_pick ne_law_pick (hr.mono (by decide)) T.mg_law_pick T.kp_law_pick T.bd_law_pick .nil rvd_nil (ma_cons (me_v (i := 0)) (ma_cons (me_op mop_subI (me_op mop_powI me_int me_int) me_int) ma_nil))))) (mss_cons
 (ms_set (i := 7) hN (me_call (ps := ["pool", "many"]) ok_law_pick ne_law_pick (hr.mono (by decide)) T.mg_law_pick T.kp_law_pick T.bd_law_pick .nil rvd_nil (ma_cons (me_v (i := 0)) (ma_cons me_int ma_nil)))) (mss_cons
 (ms_set (i := 8) hN (ML.frz (ml_lst (ma_cons me_int (ma_cons (me_neg me_int) (ma_cons (me_v (i := 6)) (ma_cons me_bl (ma_cons me_bl (ma_cons me_non (ma_cons me_str (ma_cons me_str (ma_cons (ML.frz (ml_lst (ma_cons me_int ma_nil))) (ma_cons (me_tup (ma_cons me_int ma_nil)) (ma_cons me_dic0 (ma_cons (me_op mop_subI me_int (me_v (i := 5))) (ma_cons (me_nwz (c := 0) (ps := ["items"]) T.mk_0 ok_row_init ne_row_init (hr.mono (by decide)) T.mg_Row T.bd_row_init .nil rvd_nil (ma_cons (ML.frz (ml_lst (ma_cons me_int ma_nil))) ma_nil)) (ma_cons (me_v (i := 2)) (ma_cons (me_new0 (c := 2) T.mg_First T.mk_2 T.in_2 T.kc_2 rfl) ma_nil)))))))))))))))))) (mss_cons
 (ms_for PassesOwn.never hc (mi_list (ML.frz (ml_cat (ML.frz (ml_sl (me_v (i := 8)) (mo_some (me_v (i := 7))) mo_none)) (ML.frz (ml_sl (me_v (i := 8)) mo_none (mo_some (me_v (i := 7)))))))) (mg_nm hN) (mss_one
 (ms_if (mt_not (mt_val (me_call (ps := ["live", "work"]) ok_law_refused ne_law_refused (hr.mono (by decide)) T.mg_law_refused T.kp_law_refused T.bd_law_refused .nil rvd_nil (ma_cons (me_v (i := 2)) (ma_cons (me_v (i := 9)) ma_nil))))) (mss_one
 (ms_ret me_bl)) mss_nil))) (mss_cons
 (ms_if (mt_not (mt_val (me_call (ps := ["live", "state", "deeds", "order"]) ok_law_shows ne_law_shows (hr.mono (by decide)) T.mg_law_shows T.kp_law_shows T.bd_law_shows .nil rvd_nil (ma_cons (me_v (i := 2)) (ma_cons (me_v (i := 3)) (ma_cons (me_v (i := 4)) (ma_cons (me_call (ps := ["pool", "many"]) ok_law_pick ne_law_pick (hr.mono (by decide)) T.mg_law_pick T.kp_law_pick T.bd_law_pick .nil rvd_nil (ma_cons (me_v (i := 0)) (ma_cons me_int ma_nil))) ma_nil))))))) (mss_one
 (ms_ret me_bl)) mss_nil) (mss_cons
 (ms_if (mt_cmp mop_gtI (me_call (ps := ["pool", "many"]) ok_law_pick ne_law_pick (hr.mono (by decide)) T.mg_law_pick T.kp_law_pick T.bd_law_pick .nil rvd_nil (ma_cons (me_v (i := 0)) (ma_cons me_int ma_nil))) me_int) (mss_cons
 (ms_set (i := 10) hN (me_ix (ML.frz (ml_lst (ma_cons me_int (ma_cons me_int (ma_cons (me_op mop_add me_int (me_call (ps := ["pool", "many"]) ok_law_pick ne_law_pick (hr.mono (by decide)) T.mg_law_pick T.kp_law_pick T.bd_law_pick .nil rvd_nil (ma_cons (me_v (i := 0)) (ma_cons me_int ma_nil)))) ma_nil))))) (me_call (ps := ["pool", "many"]) ok_law_pick ne_law_pick (hr.mono (by decide)) T.mg_law_pick T.kp_law_pick T.bd_law_pick .nil rvd_nil (ma_cons (me_v (i := 0)) (ma_cons me_int ma_nil))))) (mss_cons
 (ms_set (i := 3) hN (me_call (ps := ["state", "work"]) ok_law_came ne_law_came (hr.mono (by decide)) T.mg_law_came T.kp_law_came T.bd_law_came .nil rvd_nil (ma_cons (me_v (i := 3)) (ma_cons (me_v (i := 10)) ma_nil)))) (mss_one
 (ms_if (mt_cmp (mop_ne hu) (me_methX (c := 5) (ps := ["work"]) T.cls_5 T.mt_liveday_come (by decide +kernel) ok_liveday_come takes0 (hr.mono (by decide)) T.bd_liveday_come .nil rvd_nil (me_v (i := 2)) (ma_cons (me_v (i := 10)) ma_nil)) (me_op mop_subI (me_callB mc_len T.b_len (ma_cons (me_ix (me_v (i := 3)) me_int) ma_nil)) me_int)) (mss_one
 (ms_ret me_bl)) mss_nil)))) (mss_cons
 (ms_set (i := 3) hN (me_call (ps := ["name", "state"]) ok_law_passed ne_law_passed (hr.mono (by decide)) T.mg_law_passed T.kp_law_passed T.bd_law_passed .nil rvd_nil (ma_cons (me_v (i := 1)) (ma_cons (me_v (i := 3)) ma_nil)))) (mss_one
 (ms_if (mt_not (mt_val (me_call (ps := ["found", "due"]) ok_law_same_ticks ne_law_same_ticks (hr.mono (by decide)) T.mg_law_same_ticks T.kp_law_same_ticks T.bd_law_same_ticks .nil rvd_nil (ma_cons (ML.frz (ml_lst (ma_cons (me_meth0 (c := 5) (ps := []) T.cls_5 T.mt_liveday_over (by decide +kernel) ok_liveday_over ne_liveday_over (hr.mono (by decide)) T.bd_liveday_over .nil rvd_nil (me_v (i := 2))) ma_nil))) (ma_cons (ML.frz (ml_sl (me_ix (me_v (i := 3)) me_int) (mo_some (me_neg me_int)) mo_none)) ma_nil))))) (mss_one
 (ms_ret me_bl)) mss_nil)))) (mss_one
 (ms_set (i := 4) hN (me_op mop_add (me_v (i := 4)) me_int)))))))))) (mss_cons
 (ms_set (i := 11) hN (me_op mop_add me_int (me_call (ps := ["pool", "many"]) ok_law_pick ne_law_pick (hr.mono (by decide)) T.mg_law_pick T.kp_law_pick T.bd_law_pick .nil rvd_nil (ma_cons (me_v (i := 0)) (ma_cons (me_ix (ML.frz (ml_lst (ma_cons me_int (ma_cons (me_op mop_powI me_int me_int) ma_nil)))) (me_call (ps := ["pool", "many"]) ok_law_pick ne_law_pick (hr.mono (by decide)) T.mg_law_pick T.kp_law_pick T.bd_law_pick .nil rvd_nil (ma_cons (me_v (i := 0)) (ma_cons me_int ma_nil)))) ma_nil))))) (mss_cons
 (ms_set (i := 12) hN (me_call (ps := ["state", "work"]) ok_law_came ne_law_came (hr.mono (by decide)) T.mg_law_came T.kp_law_came T.bd_law_came .nil rvd_nil (ma_cons (me_v (i := 3)) (ma_cons (me_v (i := 11)) ma_nil)))) (mss_cons
 (ms_if (MW.mt (mw_or (mt_cmp (mop_ne hu) (me_methX (c := 5) (ps := ["work"]) T.cls_5 T.mt_liveday_come (by decide +kernel) ok_liveday_come takes0 (hr.mono (by decide)) T.bd_liveday_come .nil rvd_nil (me_v (i := 2)) (ma_cons (me_v (i := 11)) ma_nil)) (me_callB mc_len T.b_len (ma_cons (me_ix (me_v (i := 3)) me_int) ma_nil))) (mw_or1 (mt_not (mt_val (me_call (ps := ["live", "state", "deeds", "order"]) ok_law_shows ne_law_shows (hr.mono (by decide)) T.mg_law_shows T.kp_law_shows T.bd_law_shows .nil rvd_nil (ma_cons (me_v (i := 2)) (ma_cons (me_v (i := 12)) (ma_cons (me_op mop_add (me_v (i := 4)) me_int) (ma_cons (me_call (ps := ["pool", "many"]) ok_law_pick ne_law_pick (hr.mono (by decide)) T.mg_law_pick T.kp_law_pick T.bd_law_pick .nil rvd_nil (ma_cons (me_v (i := 0)) (ma_cons me_int ma_nil))) ma_nil)))))))))) (mss_one
 (ms_ret me_bl)) mss_nil) (mss_one
 (ms_ret (me_and (me_cmp mop_isN (me_meth0 (c := 5) (ps := ["count"]) T.cls_5 T.mt_liveday_back (by decide +kernel) ok_liveday_back ne_liveday_back (hr.mono (by decide)) bd_liveday_back dv_liveday_back (fun _ _ => .cons (.int _) .nil) (me_v (i := 2))) me_non) (me_one (me_call (ps := ["live", "state", "deeds", "order"]) ok_law_shows ne_law_shows (hr.mono (by decide)) T.mg_law_shows T.kp_law_shows T.bd_law_shows .nil rvd_nil (ma_cons (me_v (i := 2)) (ma_cons (me_v (i := 3)) (ma_cons (me_v (i := 4)) (ma_cons (me_call (ps := ["pool", "many"]) ok_law_pick ne_law_pick (hr.mono (by decide)) T.mg_law_pick T.kp_law_pick T.bd_law_pick .nil rvd_nil (ma_cons (me_v (i := 0)) (ma_cons me_int ma_nil))) ma_nil))))))))))))))))
theorem sc_law_open : FnScope ["script", "spot", "cell", "deep"] ["script", "spot"] (defScope s_law_open) := ⟨rfl, rfl, rfl, by decide +kernel, rfl, by decide +kernel, by decide +kernel⟩
theorem ok_law_open {P : Program} {w : World} {K : PySem.W.Frag} {mg : Str → Option Value} {base : Heap} {ca : CA} {fa : Nat → Addr} {fd : Nat → FuncData} (T : Fx K mg ca fa fd)  : FnOk P w K mg base CX0 2 (fa 29) (fd 29) ["script", "spot"] (spM K ca 2 m_law_open) := by
  refine id (fn_ok0 (N := ["script", "spot", "cell", "deep"]) (k := 1) T.fn_law_open sc_law_open fun cdv A outer s H E hr => ?_)
  have hN := sc_law_open.nd
  have hc : (true : Bool) = true := rfl
  have hu := hu64 hr
  exact (mss_cons
 (ms_set (i := 2) hN me_int) (mss_cons
 (ms_if (mt_cmp mop_ltI (me_v (i := 1)) (me_callB mc_len T.b_len (ma_cons (me_v (i := 0)) ma_nil))) (mss_one
 (ms_set (i := 2) hN (me_callT mc_int T.b_int (ma_cons (me_ix (me_v (i := 0)) (me_v (i := 1))) ma_nil)))) mss_nil) (mss_cons
 (ms_set (i := 3) hN me_int) (mss_cons
 (ms_if (mt_cmp mop_geI (me_v (i := 2)) (me_op mop_powI me_int me_int)) (mss_one
 (ms_set (i := 3) hN (me_op mop_subI (me_v (i := 2)) (me_op mop_powI me_int me_int)))) mss_nil) (mss_one
 (ms_ret (ML.own (ml_lst (ma_cons (me_v (i := 3)) (ma_cons (me_op mop_add (me_op mop_add (me_op mop_modI (me_callT mc_int T.b_int (ma_cons (me_v (i := 2)) ma_nil)) (me_op mop_add (me_op mop_powI me_int me_int) me_int)) (me_op mop_mul me_int (me_v (i := 1)))) me_int) (ma_cons me_int ma_nil)))))))))))
theorem sc_law : FnScope ["script", "spot"] ["script"] (defScope s_law) := ⟨rfl, rfl, rfl, by decide +kernel, rfl, by decide +kernel, by decide +kernel⟩
theorem ok_law {P : Program} {w : World} {K : PySem.W.Frag} {mg : Str → Option Value} {base : Heap} {ca : CA} {fa : Nat → Addr} {fd : Nat → FuncData} (T : Fx K mg ca fa fd) (ok_law_right : FnOk P w K mg base CX0 12 (fa 41) (fd 41) ["pool"] (spM K ca 1 m_law_right)) (ok_law_open : FnOk P w K mg base CX0 2 (fa 29) (fd 29) ["script", "spot"] (spM K ca 2 m_law_open)) : FnOk P w K mg base CX0 14 (fa 42) (fd 42) ["script"] (spM K ca 1 m_law) := by
  refine fn_cut (fn_ok0 (N := ["script", "spot"]) (k := 13) T.fn_law sc_law fun cdv A outer s H E hr => ?_)
  have hN := sc_law.nd
  have hc : (true : Bool) = true := rfl
  have hu := hu64 hr
  exact (mss_cons
 (ms_for PassesOwn.never hc (mi_rg T.b_range (ma_cons (me_callB (mc_max hc) T.b_max (ma_cons me_int (ma_cons (me_callB (mc_min hc) T.b_min (ma_cons me_int (ma_cons (me_callB mc_len T.b_len (ma_cons (me_v (i := 0)) ma_nil)) ma_nil))) ma_nil))) ma_nil)) (mg_nm hN) (mss_one
 (ms_if (mt_not (mt_val (me_call (ps := ["pool"]) ok_law_right ne_law_right (hr.mono (by decide)) T.mg_law_right T.kp_law_right T.bd_law_right .nil rvd_nil (ma_cons (me_call (ps := ["script", "spot"]) ok_law_open ne_law_open (hr.mono (by decide)) T.mg_law_open T.kp_law_open T.bd_law_open .nil rvd_nil (ma_cons (me_v (i := 0)) (ma_cons (me_v (i := 1)) ma_nil))) ma_nil)))) (mss_one
 (ms_ret me_bl)) mss_nil))) (mss_one
 (ms_ret me_bl)))
end G
set_option maxHeartbeats 1000000
namespace G
open PySem L2 MX
@[simp] theorem rgD0 (n : Nat) : rgD 0 n = (List.range n).map fun (i : Nat) => D.int i := by unfold rgD; simp
theorem is_int_spec (i : Int) (st : Sto) : m_law_is_int [.int i] st = .ok (.bl true) st := by
  refine fnC_same ?_ rfl
  simp [b_law_is_int, envOf]
theorem is_integer_spec (i : Int) (st : Sto) : m_is_integer [.int i] st = .ok (.bl true) st := by
  refine fnC_same ?_ rfl
  simp [b_is_integer, envOf]
/-! ### whom a rule serves -/
def wkAt (wk : List Int) (k : Nat) : Int := wk.getD k 0
def able (wk : List Int) : List Nat := (List.range wk.length).filter fun k => decide (0 < wkAt wk k)
theorem able_lt {wk : List Int} {k : Nat} (h : k ∈ able wk) : k < wk.length := by
  unfold able at h
  rw [List.mem_filter, List.mem_range] at h
  exact h.1
theorem able_sorted (wk : List Int) : (able wk).Pairwise (· < ·) := by
  unfold able
  exact List.Pairwise.filter _ List.pairwise_lt_range
theorem able_len (wk : List Int) : (able wk).length ≤ wk.length := by
  have := List.length_filter_le (fun k => decide (0 < wkAt wk k)) (List.range wk.length)
  rw [List.length_range] at this
  exact this
def nat (k : Nat) : D := .int k
@[simp] theorem pl_nats (ks : List Nat) (n : Nat) : plAll (ks.map nat) n = true := plAll_all fun d hd => by
  obtain ⟨k, _, rfl⟩ := List.mem_map.mp hd
  exact pl_int
def best (f : Nat → Int) (k : Nat) (ks : List Nat) : Nat := ks.foldl (fun a y => if prLt (f y, y) (f a, a) then y else a) k
theorem minP_best (f : Nat → Int) : ∀ (ks : List Nat) (k : Nat), minP (f k, (k : Int)) (ks.map fun k => (f k, (k : Int))) = (f (best f k ks), (best f k ks : Int))
  | [], k => rfl
  | y :: ks, k => by
    show minP (if prLt (f y, (y : Int)) (f k, (k : Int)) then (f y, (y : Int)) else (f k, (k : Int))) (ks.map fun k => (f k, (k : Int))) = _
    by_cases h : prLt (f y, (y : Int)) (f k, (k : Int)) = true
    · rw [if_pos h, minP_best f ks y]
      have : best f k (y :: ks) = best f y ks := by
        show List.foldl _ (if prLt (f y, (y : Int)) (f k, (k : Int)) then y else k) ks = _
        rw [if_pos h]; rfl
      rw [this]
    · rw [if_neg h, minP_best f ks k]
      have : best f k (y :: ks) = best f k ks := by
        show List.foldl _ (if prLt (f y, (y : Int)) (f k, (k : Int)) then y else k) ks = _
        rw [if_neg h]; rfl
      rw [this]
theorem best_is (f : Nat → Int) : ∀ (ks : List Nat) (k : Nat), best f k ks ∈ k :: ks ∧ ∀ y ∈ k :: ks, f (best f k ks) ≤ f y ∧ (f y = f (best f k ks) → best f k ks ≤ y)
  | [], k => by simp [best]
  | x :: ks, k => by
    have hb : best f k (x :: ks) = best f (if prLt (f x, (x : Int)) (f k, (k : Int)) then x else k) ks := rfl
    by_cases h : prLt (f x, (x : Int)) (f k, (k : Int)) = true
    · rw [hb, if_pos h]
      obtain ⟨h1, h2⟩ := best_is f ks x
      refine ⟨List.mem_cons_of_mem _ h1, fun y hy => ?_⟩
      rcases List.mem_cons.mp hy with e | e
      · subst e
        have h3 := h2 x List.mem_cons_self
        unfold prLt at h
        simp at h
        constructor
        · omega
        · intro he
          have : f x = f (best f x ks) := by omega
          have := h3.2 this
          omega
      · exact h2 y e
    · rw [hb, if_neg h]
      obtain ⟨h1, h2⟩ := best_is f ks k
      refine ⟨?_, fun y hy => ?_⟩
      · rcases List.mem_cons.mp h1 with e | e
        · rw [e]; exact List.mem_cons_self
        · exact List.mem_cons_of_mem _ (List.mem_cons_of_mem _ e)
      · rcases List.mem_cons.mp hy with e | e
        · exact h2 y (e ▸ List.mem_cons_self)
        · rcases List.mem_cons.mp e with e | e
          · subst e
            have h3 := h2 k List.mem_cons_self
            unfold prLt at h
            simp at h
            constructor
            · omega
            · intro he
              have : f k = f (best f k ks) := by omega
              have := h3.2 this
              omega
          · exact h2 y (List.mem_cons_of_mem _ e)
def nextP (r : Nat) (wk : List Int) (la : Int) : Option Nat := match able wk with
  | [] => none
  | k :: ks => some (if r = 1 then best (fun k => wkAt wk k) k ks else if r = 3 then best (fun k => - wkAt wk k) k ks else if r = 4 then (((k :: ks).filter fun (j : Nat) => decide (la < (j : Int))) ++ (k :: ks)).headD 0 else k)
def tkD : Option Nat → D
  | none => .non
  | some k => .int k
theorem next_able {r : Nat} {wk : List Int} {la : Int} {k : Nat} (h : nextP r wk la = some k) : k ∈ able wk := by
  unfold nextP at h
  cases e : able wk with
  | nil => rw [e] at h; cases h
  | cons a l =>
    rw [e] at h
    injection h with h
    subst h
    split
    · exact (best_is _ l a).1
    · split
      · exact (best_is _ l a).1
      · split
        · cases e2 : (a :: l).filter fun (j : Nat) => decide (la < (j : Int)) with
          | nil => simp
          | cons b t =>
            have : b ∈ (a :: l).filter fun (j : Nat) => decide (la < (j : Int)) := by rw [e2]; exact List.mem_cons_self
            simp only [List.cons_append, List.headD_cons]
            exact (List.mem_filter.mp this).1
        · exact List.mem_cons_self
theorem atI_wk {wk : List Int} {k : Nat} (h : k < wk.length) : atI (wk.map D.int) (k : Int) = some (.int (wkAt wk k)) := by
  unfold wkAt
  rw [atI_nat (by rw [List.length_map]; exact h), List.getElem_map, List.getD_eq_getElem?_getD, List.getElem?_eq_getElem h]
  rfl
section
variable {wk : List Int} {la : Int} {st : Sto} {x : D}
/-- able = [k for k in range(len(left)) if left[k] > 0] -/
theorem lp_able {e0 e2 e3 e5 : Option D} (hl : wk.length ≤ 20000) : lpL (nmG 4) (blM (opM gtI (opM ixD (vM 1) (vM 4)) (cM (.int 0)))) (vM 4) ((List.range wk.length).map fun (i : Nat) => D.int i) [e0, some (.lst (wk.map D.int)), e2, e3, none, e5] [] st = .ok ((able wk).map nat) st := by
  rw [lpL_map (fun (i : Nat) => D.int i) (fun k => decide (0 < wkAt wk k)) nat _ _ (fun k hk => ⟨_, rfl, ?_, fun _ => ?_⟩) (by simp [LIM]; omega)]
  · rfl
  · have := atI_wk (List.mem_range.mp hk)
    simp [this]
  · simp [nat]
def prN (f : Nat → Int) (k : Nat) : Int × Int := (f k, (k : Int))
theorem lp_pairs {e0 e2 e3 e5 : Option D} (ks : List Nat) (hk : ∀ k ∈ ks, k < wk.length) (hl : ks.length ≤ 20000) : lpL (nmG 4) yesM (tupM (consA (opM ixD (vM 1) (vM 4)) (consA (vM 4) nilA))) (ks.map nat) [e0, some (.lst (wk.map D.int)), e2, e3, none, e5] [] st = .ok ((ks.map (prN fun k => wkAt wk k)).map prD) st := by
  rw [lpL_map nat (fun _ => true) (fun k => prD (prN (fun k => wkAt wk k) k)) _ _ (fun k hk2 => ⟨_, rfl, rfl, fun _ => ?_⟩) (by simp [LIM]; omega)]
  · simp [Function.comp_def]
  · have := atI_wk (hk k hk2)
    simp [this, nat, prD, prN]
theorem lp_pairsN {e0 e2 e3 e5 : Option D} (ks : List Nat) (hk : ∀ k ∈ ks, k < wk.length) (hl : ks.length ≤ 20000) : lpL (nmG 4) yesM (tupM (consA (unM negI (opM ixD (vM 1) (vM 4))) (consA (vM 4) nilA))) (ks.map nat) [e0, some (.lst (wk.map D.int)), e2, e3, none, e5] [] st = .ok ((ks.map (prN fun k => - wkAt wk k)).map prD) st := by
  rw [lpL_map nat (fun _ => true) (fun k => prD (prN (fun k => - wkAt wk k) k)) _ _ (fun k hk2 => ⟨_, rfl, rfl, fun _ => ?_⟩) (by simp [LIM]; omega)]
  · simp [Function.comp_def]
  · have := atI_wk (hk k hk2)
    simp [this, nat, prD, prN]
theorem lp_behind {e0 e1 e3 e5 : Option D} (ks : List Nat) (hl : ks.length ≤ 20000) : lpL (nmG 4) (blM (opM gtI (vM 4) (vM 2))) (vM 4) (ks.map nat) [e0, e1, some (.int la), e3, none, e5] [] st = .ok ((ks.filter fun (j : Nat) => decide (la < (j : Int))).map nat) st := by
  rw [lpL_map nat (fun k => decide (la < (k : Int))) nat _ _ (fun k hk2 => ⟨_, rfl, ?_, fun _ => ?_⟩) (by simp [LIM]; omega)]
  · simp
  · simp [nat]
  · simp [nat]
theorem lp_works {e0 e2 e3 e5 : Option D} (ks : List Nat) (hk : ∀ k ∈ ks, k < wk.length) (hl : ks.length ≤ 20000) : lpL (nmG 4) yesM (opM ixD (vM 1) (vM 4)) (ks.map nat) [e0, some (.lst (wk.map D.int)), e2, e3, none, e5] [] st = .ok ((ks.map fun k => wkAt wk k).map D.int) st := by
  rw [lpL_map nat (fun _ => true) (fun k => D.int (wkAt wk k)) _ _ (fun k hk2 => ⟨_, rfl, rfl, fun _ => ?_⟩) (by simp [LIM]; omega)]
  · simp [Function.comp_def]
  · have := atI_wk (hk k hk2)
    simp [this, nat]
end
theorem clo_tk (n : Nat) (o : Option Nat) : (tkD o).clo n = true := by cases o <;> simp [tkD]
theorem next_spec (r : Nat) (hr : r = 1 ∨ r = 2 ∨ r = 3 ∨ r = 4) (wk : List Int) (la : Int) (st : Sto) (hl : wk.length ≤ 10000) : m_next_person [.obj r [], .lst (wk.map .int), .int la] st = .ok (tkD (nextP r wk la)) st := by
  refine fnC_same ?_ (clo_tk _ _)
  simp [b_next_person, envOf, rgK_at (show -(2 ^ 62) ≤ (wk.length : Int) by omega) (show (wk.length : Int) < 2 ^ 62 by omega), wipeE]
  rw [lp_able (by omega)]
  have ha : ∀ k ∈ able wk, k < wk.length := fun k => able_lt
  have hal := able_len wk
  cases e : able wk with
  | nil =>
    have hnx : nextP r wk la = none := by unfold nextP; rw [e]
    rw [hnx]
    simp [tkD, eqD_nil]
  | cons k ks =>
    rw [e] at ha hal
    have hnx : nextP r wk la = some (if r = 1 then best (fun k => wkAt wk k) k ks else if r = 3 then best (fun k => - wkAt wk k) k ks else if r = 4 then (((k :: ks).filter fun (j : Nat) => decide (la < (j : Int))) ++ (k :: ks)).headD 0 else k) := by unfold nextP; rw [e]
    rw [hnx]
    have h1 := lp_pairs (wk := wk) (st := st) (e0 := some (.obj r [])) (e2 := some (.int la)) (e3 := some (.lst ((k :: ks).map nat))) (e5 := none) (k :: ks) ha (by omega)
    have h2 := lp_pairsN (wk := wk) (st := st) (e0 := some (.obj r [])) (e2 := some (.int la)) (e3 := some (.lst ((k :: ks).map nat))) (e5 := none) (k :: ks) ha (by omega)
    have h3 := lp_behind (la := la) (st := st) (e0 := some (.obj r [])) (e1 := some (.lst (wk.map D.int))) (e3 := some (.lst ((k :: ks).map nat))) (e5 := none) (k :: ks) (by omega)
    have hs : eqD (.lst ((k :: ks).map nat)) (.lst []) st = some (.bl false) := eqD_nil (pl_nats _ _)
    have hi : ∀ c, isiD CS (.cls c) (.obj r []) st = some (.bl (decide (r = c))) := fun c => by
      rw [isi_obj (by rcases hr with rfl | rfl | rfl | rfl <;> decide), isT_cc]
    generalize hL : (D.lst ((k :: ks).map nat)) = L at *
    have hL2 : ldL st L = some ((k :: ks).map nat) := by rw [← hL]; rfl
    have hL3 : ∀ i, ixD L (.int i) st = atI ((k :: ks).map nat) i := fun i => by rw [← hL]; rfl
    have h4 := minPD_lst (st := st) (p := prN (fun k => wkAt wk k) k) (ps := ks.map (prN fun k => wkAt wk k))
    have h5 := minPD_lst (st := st) (p := prN (fun k => - wkAt wk k) k) (ps := ks.map (prN fun k => - wkAt wk k))
    have h6 : minP (prN (fun k => wkAt wk k) k) (ks.map (prN fun k => wkAt wk k)) = _ := minP_best (fun k => wkAt wk k) ks k
    have h7 : minP (prN (fun k => - wkAt wk k) k) (ks.map (prN fun k => - wkAt wk k)) = _ := minP_best (fun k => - wkAt wk k) ks k
    rw [h6, ← List.map_cons] at h4
    rw [h7, ← List.map_cons] at h5
    generalize hN : k :: ks = nn at *
    rcases hr with rfl | rfl | rfl | rfl
    · simp [hL, hs, hi, wipeE, hL2, h1, h4, prD, tkD, -List.map_map]
    · simp [hL, hs, hi, wipeE, hL2, hL3, tkD]
      subst hN
      simp [nat]
    · simp [hL, hs, hi, wipeE, hL2, h2, h5, prD, tkD, -List.map_map]
    · have h8 : addD (.lst ((nn.filter fun (j : Nat) => decide (la < (j : Int))).map nat)) L st = some (.lst (((nn.filter fun (j : Nat) => decide (la < (j : Int))) ++ nn).map nat)) := by
        rw [← hL, addD_lst, List.map_append]
        rw [List.length_map, List.length_map]
        have := List.length_filter_le (fun (j : Nat) => decide (la < (j : Int))) nn
        show _ ≤ 100000
        omega
      have h9 : (nn.filter fun (j : Nat) => decide (la < (j : Int))) ++ nn ≠ [] := fun e9 => by
        rw [← hN] at e9; simp at e9
      generalize (nn.filter fun (j : Nat) => decide (la < (j : Int))) ++ nn = mm at *
      cases mm with
      | nil => exact absurd rfl h9
      | cons a l => simp [hL, hs, hi, wipeE, hL2, h3, h8, tkD, nat]
end G
set_option maxHeartbeats 1000000
namespace G
open PySem L2 MX
def nmS (r : Nat) : Str := if r = 1 then "shortest" else if r = 2 then "first" else if r = 3 then "longest" else "turns"
theorem sx1 : PyData.strOk "shortest" = true := by decide +kernel
theorem sx2 : PyData.strOk "first" = true := by decide +kernel
theorem sx3 : PyData.strOk "longest" = true := by decide +kernel
theorem sx4 : PyData.strOk "turns" = true := by decide +kernel
theorem sx (r : Nat) : PyData.strOk (nmS r) = true := by
  unfold nmS
  split
  · exact sx1
  · split
    · exact sx2
    · split
      · exact sx3
      · exact sx4
theorem nm_ne12 : (("shortest" : Str) == ("first" : Str)) = false := by decide +kernel
theorem eq_nm (r : Nat) (x : Str) (st : Sto) (hx : PyData.strOk x = true) : eqD (.str (nmS r)) (.str x) st = some (.bl (nmS r == x)) := eqD_str (sx r) hx
theorem index_best {f : Nat → Int} {b : Nat} : ∀ (l : List Nat), l.Pairwise (· < ·) → b ∈ l → (∀ y ∈ l, f y = f b → b ≤ y) → ∃ j, fdIx (fun z => eqF z (.int (f b))) (l.map fun k => D.int (f k)) = some j ∧ l[j]? = some b
  | [], _, h, _ => by simp at h
  | a :: l, hp, h, hb => by
    rw [List.pairwise_cons] at hp
    have e1 : fdIx (fun z => eqF z (.int (f b))) ((a :: l).map fun k => D.int (f k)) = if (f a == f b) = true then some 0 else (fdIx (fun z => eqF z (.int (f b))) (l.map fun k => D.int (f k))).map (· + 1) := rfl
    by_cases e : f a = f b
    · have hba := hb a List.mem_cons_self e
      have : b = a := by
        rcases List.mem_cons.mp h with h | h
        · exact h
        · have := hp.1 b h; omega
      subst this
      exact ⟨0, by rw [e1, if_pos (by simp)], rfl⟩
    · have hbl : b ∈ l := by
        rcases List.mem_cons.mp h with h | h
        · subst h; exact absurd rfl e
        · exact h
      obtain ⟨j, h1, h2⟩ := index_best l hp.2 hbl fun y hy => hb y (List.mem_cons_of_mem _ hy)
      exact ⟨j + 1, by rw [e1, if_neg (by simpa using e), h1]; rfl, by simpa using h2⟩
theorem flat_ints (ns : List Int) : (ns.map D.int).all flD = true := by
  induction ns with
  | nil => rfl
  | cons n ns ih => rw [List.map_cons, List.all_cons, ih]; rfl
theorem law_next_spec (r : Nat) (hr : r = 1 ∨ r = 2 ∨ r = 3 ∨ r = 4) (wk : List Int) (la : Int) (st : Sto) (hl : wk.length ≤ 10000) : m_law_next [.str (nmS r), .lst (wk.map .int), .int la] st = .ok (tkD (nextP r wk la)) st := by
  refine fnC_same ?_ (clo_tk _ _)
  simp [b_law_next, envOf, rgK_at (show -(2 ^ 62) ≤ (wk.length : Int) by omega) (show (wk.length : Int) < 2 ^ 62 by omega), wipeE]
  rw [lp_able (by omega)]
  have ha : ∀ k ∈ able wk, k < wk.length := fun k => able_lt
  have hal := able_len wk
  have hso := able_sorted wk
  cases e : able wk with
  | nil =>
    have hnx : nextP r wk la = none := by unfold nextP; rw [e]
    rw [hnx]
    simp [tkD, eqD_nil]
  | cons k ks =>
    rw [e] at ha hal hso
    have hnx : nextP r wk la = some (if r = 1 then best (fun k => wkAt wk k) k ks else if r = 3 then best (fun k => - wkAt wk k) k ks else if r = 4 then (((k :: ks).filter fun (j : Nat) => decide (la < (j : Int))) ++ (k :: ks)).headD 0 else k) := by unfold nextP; rw [e]
    rw [hnx]
    have h3 := lp_behind (la := la) (st := st) (e0 := some (.str (nmS r))) (e1 := some (.lst (wk.map D.int))) (e3 := some (.lst ((k :: ks).map nat))) (e5 := none) (k :: ks) (by omega)
    have h1 := lp_works (wk := wk) (st := st) (e0 := some (.str (nmS r))) (e2 := some (.int la)) (e3 := some (.lst ((k :: ks).map nat))) (e5 := none) (k :: ks) ha (by omega)
    have hs : eqD (.lst ((k :: ks).map nat)) (.lst []) st = some (.bl false) := eqD_nil (pl_nats _ _)
    generalize hL : (D.lst ((k :: ks).map nat)) = L at *
    have hL2 : ldL st L = some ((k :: ks).map nat) := by rw [← hL]; rfl
    have hL3 : ∀ i, ixD L (.int i) st = atI ((k :: ks).map nat) i := fun i => by rw [← hL]; rfl
    obtain ⟨b1, b2⟩ := best_is (fun k => wkAt wk k) ks k
    obtain ⟨c1, c2⟩ := best_is (fun k => - wkAt wk k) ks k
    generalize hN : k :: ks = nn at *
    have hn0 : nn ≠ [] := by rw [← hN]; simp
    have hn1 : nn.map (fun k => wkAt wk k) ≠ [] := by simpa using hn0
    have hmin : minN (nn.map fun k => wkAt wk k) = wkAt wk (best (fun k => wkAt wk k) k ks) := (min_is (List.mem_map.mpr ⟨_, b1, rfl⟩) fun y hy => by
      obtain ⟨z, hz, rfl⟩ := List.mem_map.mp hy
      exact (b2 z hz).1).symm
    have hmax : maxN (nn.map fun k => wkAt wk k) = wkAt wk (best (fun k => - wkAt wk k) k ks) := (max_is (List.mem_map.mpr ⟨_, c1, rfl⟩) fun y hy => by
      obtain ⟨z, hz, rfl⟩ := List.mem_map.mp hy
      have := (c2 z hz).1
      show wkAt wk z ≤ _
      have h9 : -wkAt wk (best (fun k => -wkAt wk k) k ks) ≤ -wkAt wk z := this
      omega).symm
    have i1 := index_best (f := fun k => wkAt wk k) nn hso b1 fun y hy he => (b2 y hy).2 he
    have i2 := index_best (f := fun k => wkAt wk k) (b := best (fun k => - wkAt wk k) k ks) nn hso c1 fun y hy he => (c2 y hy).2 (by show -wkAt wk y = -wkAt wk _; rw [he])
    have hind : ∀ (b : Nat), b ∈ nn → (∃ j, fdIx (fun z => eqF z (.int (wkAt wk b))) (nn.map fun k => D.int (wkAt wk k)) = some j ∧ nn[j]? = some b) → ∃ j : Nat, indD (.lst ((nn.map fun k => wkAt wk k).map D.int)) [.int (wkAt wk b)] st = some (.int j, st) ∧ atI (nn.map nat) (j : Int) = some (.int b) := fun b hb ⟨j, hj, hj2⟩ => by
      refine ⟨j, ?_, ?_⟩
      · have : indD (.lst ((nn.map fun k => wkAt wk k).map D.int)) [.int (wkAt wk b)] st = if flD (.int (wkAt wk b)) = true ∧ ((nn.map fun k => wkAt wk k).map D.int).all flD = true then (fdIx (fun z => eqF z (.int (wkAt wk b))) ((nn.map fun k => wkAt wk k).map D.int)).map fun j => (.int (j : Nat), st) else none := rfl
        rw [this, if_pos ⟨rfl, flat_ints _⟩, List.map_map]
        show (fdIx _ (nn.map fun k => D.int (wkAt wk k))).map _ = _
        rw [hj]; rfl
      · have hlt := (List.getElem?_eq_some_iff.mp hj2).1
        rw [atI_nat (by rw [List.length_map]; exact hlt), List.getElem_map]
        have := (List.getElem?_eq_some_iff.mp hj2).2
        rw [this]; rfl
    obtain ⟨j1, k1, k2⟩ := hind _ b1 i1
    obtain ⟨j2, k3, k4⟩ := hind _ c1 i2
    have hmn := minD_lst (st := st) hn1
    have hmx := maxD_lst (st := st) hn1
    rw [hmin] at hmn
    rw [hmax] at hmx
    rcases hr with rfl | rfl | rfl | rfl
    · have e1 : (nmS 1 == ("turns" : Str)) = false := by decide +kernel
      have e2 : (nmS 1 == ("first" : Str)) = false := by decide +kernel
      have e3 : (nmS 1 == ("longest" : Str)) = false := by decide +kernel
      simp [hL, hs, eq_nm _ _ _ sx1, eq_nm _ _ _ sx2, eq_nm _ _ _ sx3, eq_nm _ _ _ sx4, e1, e2, e3, wipeE, hL2, hL3, h1, hmn, hmx, k1, k2, tkD, -List.map_map]
    · have e1 : (nmS 2 == ("turns" : Str)) = false := by decide +kernel
      have e2 : (nmS 2 == ("first" : Str)) = true := by decide +kernel
      simp [hL, hs, eq_nm _ _ _ sx1, eq_nm _ _ _ sx2, eq_nm _ _ _ sx3, eq_nm _ _ _ sx4, e1, e2, wipeE, hL2, hL3, tkD]
      subst hN
      simp [nat]
    · have e1 : (nmS 3 == ("turns" : Str)) = false := by decide +kernel
      have e2 : (nmS 3 == ("first" : Str)) = false := by decide +kernel
      have e3 : (nmS 3 == ("longest" : Str)) = true := by decide +kernel
      simp [hL, hs, eq_nm _ _ _ sx1, eq_nm _ _ _ sx2, eq_nm _ _ _ sx3, eq_nm _ _ _ sx4, e1, e2, e3, wipeE, hL2, hL3, h1, hmn, hmx, k3, k4, tkD, -List.map_map]
    · have e1 : (nmS 4 == ("turns" : Str)) = true := by decide +kernel
      have h8 : catL (.lst ((nn.filter fun (j : Nat) => decide (la < (j : Int))).map nat)) L st = some (((nn.filter fun (j : Nat) => decide (la < (j : Int))) ++ nn).map nat) := by
        rw [← hL, catL_lst, List.map_append]
        rw [List.length_map, List.length_map]
        have := List.length_filter_le (fun (j : Nat) => decide (la < (j : Int))) nn
        show _ ≤ 100000
        omega
      have h9 : (nn.filter fun (j : Nat) => decide (la < (j : Int))) ++ nn ≠ [] := fun e9 => by
        rw [← hN] at e9; simp at e9
      generalize (nn.filter fun (j : Nat) => decide (la < (j : Int))) ++ nn = mm at *
      cases mm with
      | nil => exact absurd rfl h9
      | cons a l => simp [hL, hs, eq_nm _ _ _ sx1, eq_nm _ _ _ sx2, eq_nm _ _ _ sx3, eq_nm _ _ _ sx4, e1, wipeE, hL2, h3, h8, tkD, nat]
end G
set_option maxHeartbeats 1000000
namespace G
open PySem L2 MX
/-! ### the pool -/
def Pool (N : Nat) (ds : List D) : Prop := ∃ a b c : Int, ds = [.int a, .int b, .int c] ∧ 0 ≤ b ∧ b < 10 ^ 25 ∧ 0 ≤ c ∧ c ≤ N
theorem Pool.mono {N M : Nat} {ds : List D} (h : Pool N ds) (hl : N ≤ M) : Pool M ds := by
  obtain ⟨a, b, c, e, h1, h2, h3, h4⟩ := h
  exact ⟨a, b, c, e, h1, h2, h3, by omega⟩
theorem nab {i : Int} {n : Nat} (h0 : 0 ≤ i) (h : i < (n : Int)) : i.natAbs < n := by omega
theorem mulOk_l {i j : Int} (h : -(2 ^ 64) < i) (h2 : i < 2 ^ 64) : mulOk i j := .inl ⟨h, h2⟩
theorem mulOk_b {i j : Int} (h : 0 ≤ i) (h2 : i < 2 ^ 999) (h3 : 0 ≤ j) (h4 : j < 2 ^ 999) : mulOk i j := .inr (.inr ⟨by
  have : i.natAbs < 2 ^ 1000 := by
    have e : (2 : Int) ^ 999 ≤ 2 ^ 1000 := by decide +kernel
    have := Int.natAbs_of_nonneg h
    have h5 : ((i.natAbs : Nat) : Int) < ((2 ^ 1000 : Nat) : Int) := by
      rw [this]
      exact Int.lt_of_lt_of_le h2 (by decide +kernel)
    exact Int.ofNat_lt.mp h5
  exact this, by
    have := Int.natAbs_of_nonneg h3
    have h5 : ((j.natAbs : Nat) : Int) < ((2 ^ 1000 : Nat) : Int) := by
      rw [this]
      exact Int.lt_of_lt_of_le h4 (by decide +kernel)
    exact Int.ofNat_lt.mp h5⟩)
theorem sq_set {st : Sto} {k : Nat} {m m' : MO} : (st.set k m).set k m' = st.set k m' := List.set_set ..
theorem get_set {st : Sto} {k : Nat} {m m' : MO} (h : st[k]? = some m) : (st.set k m')[k]? = some m' := by
  rw [List.getElem?_set_self (List.getElem?_eq_some_iff.mp h).1]
theorem get_set_ne {st : Sto} {k j : Nat} {m' : MO} (h : k ≠ j) : (st.set k m')[j]? = st[j]? := List.getElem?_set_ne h
theorem tame_set {st : Sto} {k : Nat} {m m' : MO} (h : st[k]? = some m) (hc : m'.clo st.length = true) : tame st (st.set k m') := by
  refine ⟨by rw [List.length_set]; exact Nat.le_refl _, fun j hj => ?_⟩
  by_cases e : k = j
  · subst e
    exact .inr ⟨m', get_set h, hc⟩
  · exact .inl (get_set_ne e)
theorem fnC_set {n k : Nat} {m : SM} {ds : List D} {st t : Sto} {d : D} {mo mo' : MO} (h : (m (envOf n ds) st).ret0 = .ok d (st.set k mo' ++ t)) (hk : st[k]? = some mo) (hm : mo'.clo st.length = true) (hc : d.clo st.length = true) : fnC n m ds st = .ok d (st.set k mo') := by
  have hl : (st.set k mo').length = st.length := List.length_set
  rw [fnC_ok h hc ⟨by rw [List.length_append, hl]; omega, fun j hj => ?_⟩]
  · rw [← hl, List.take_left]
  · rw [List.getElem?_append_left (by rw [hl]; exact hj)]
    exact (tame_set hk hm).2 j hj
theorem pick_spec {N k : Nat} {ds : List D} {many : Int} {st : Sto} (hk : st[k]? = some (.lst ds)) (hp : Pool N ds) (hN : N < 10 ^ 9) (h0 : 0 < many) (h1 : many < 10 ^ 40) :
    ∃ (r : Int) (ds' : List D), m_law_pick [.own k, .int many] st = .ok (.int r) (st.set k (.lst ds')) ∧ Pool (N + 1) ds' ∧ 0 ≤ r ∧ r < many := by
  obtain ⟨a, b, c, rfl, hb0, hb1, hc0, hc1⟩ := hp
  by_cases ha : 0 < a
  · refine ⟨a % many, [.int (a / many), .int b, .int c], ?_, ⟨_, b, c, rfl, hb0, hb1, hc0, by omega⟩, Int.emod_nonneg _ (by omega), Int.emod_lt_of_pos _ h0⟩
    refine fnC_set (t := []) ?_ hk (by simp [MO.clo]) (by simp)
    simp [b_law_pick, envOf, hk, ha, divI_int h0 h1, modI_int h0]
  · have e29 : powI (.int 10) (.int 29) = fun st => some (.int (10 ^ 29)) := by funext st; exact powI_int (by decide) (by decide) (by decide)
    have e28 : powI (.int 10) (.int 28) = fun st => some (.int (10 ^ 28)) := by funext st; exact powI_int (by decide) (by decide) (by decide)
    have m1 := fun st => mulD_int (st := st) (mulOk_l (i := 32416190071) (j := c + 1) (by decide) (by decide))
    generalize hse : b + 32416190071 * (c + 1) = se
    have hs0 : 0 ≤ se := by omega
    have hs1 : se < 2 ^ 90 := by omega
    have m2 := fun st => mulD_int (st := st) (mulOk_b hs0 (Int.lt_of_lt_of_le hs1 (by decide +kernel)) hs0 (Int.lt_of_lt_of_le hs1 (by decide +kernel)))
    have m3 := fun st => mulD_int (st := st) (mulOk_l (i := 7) (j := c + 1) (by decide) (by decide))
    have hss0 : 0 ≤ se * se := Int.mul_nonneg hs0 hs0
    have hss1 : se * se < 2 ^ 999 := Int.lt_of_le_of_lt (Int.mul_le_mul (Int.le_of_lt hs1) (Int.le_of_lt hs1) hs0 (by decide)) (by decide +kernel)
    have hq0 : 0 ≤ b + 7 * (c + 1) := by omega
    have hq1 : b + 7 * (c + 1) < 2 ^ 90 := by omega
    have m4 := fun st => mulD_int (st := st) (mulOk_b hss0 hss1 hq0 (Int.lt_of_lt_of_le hq1 (by decide +kernel)))
    have d1 : (0 : Int) < 10 ^ 29 + 319 := by decide
    have d2 : (0 : Int) < 10 ^ 28 + 331 := by decide
    have w1 := fun st => modI_int (st := st) (i := se * se * (b + 7 * (c + 1))) d1
    generalize hon : se * se * (b + 7 * (c + 1)) % (10 ^ 29 + 319) = on at *
    have ho0 : 0 ≤ on := by rw [← hon]; exact Int.emod_nonneg _ (by decide)
    have ho1 : on < 2 ^ 100 := by rw [← hon]; exact Int.lt_trans (Int.emod_lt_of_pos _ d1) (by decide)
    have m5 := fun st => mulD_int (st := st) (mulOk_b ho0 (Int.lt_of_lt_of_le ho1 (by decide +kernel)) ho0 (Int.lt_of_lt_of_le ho1 (by decide +kernel)))
    have m6 := fun st => mulD_int (st := st) (mulOk_l (i := 67867979) (j := c + 1) (by decide) (by decide))
    have w2 := fun st => modI_int (st := st) (i := on * on + 67867979 * (c + 1)) d2
    generalize htw : (on * on + 67867979 * (c + 1)) % (10 ^ 28 + 331) = tw at *
    have w3 := fun st => divI_int (st := st) (i := tw) (j := 982451) (by decide) (by decide)
    have w4 := fun st => modI_int (st := st) (i := tw / 982451) h0
    have hgs : ∀ (x y z : D) (s : Sto), s[k]? = some (.lst [x, y, z]) → True := fun _ _ _ _ _ => trivial
    refine ⟨tw / 982451 % many, [.int a, .int b, .int (c + 1)], ?_, ⟨a, b, c + 1, rfl, hb0, hb1, by omega, by omega⟩, Int.emod_nonneg _ (by omega), Int.emod_lt_of_pos _ h0⟩
    refine fnC_set (t := []) ?_ hk (by simp [MO.clo]) (by simp)
    have hk2 : (st.set k (.lst [.int a, .int b, .int (c + 1)]))[k]? = some (.lst [.int a, .int b, .int (c + 1)]) := get_set hk
    simp [-Int.reducePow, b_law_pick, envOf, hk, ha, hk2, m1, hse, m2, m3, m4, e29, e28, w1, m5, m6, w2, w3, w4]
end G
set_option maxHeartbeats 1000000
namespace G
open PySem L2 MX
theorem open_spec {ns : List Int} {st : Sto} {spot : Nat} (hn : ns.length ≤ 63) (hs : spot < 63) :
    ∃ ds, m_law_open [.scr ns, .int spot] st = .ok (.own st.length) (st ++ [.lst ds]) ∧ Pool 1 ds := by
  have e18 : powI (.int 10) (.int 18) = fun st => some (.int (10 ^ 18)) := by funext st; exact powI_int (by decide) (by decide) (by decide)
  have e23 : powI (.int 10) (.int 23) = fun st => some (.int (10 ^ 23)) := by funext st; exact powI_int (by decide) (by decide) (by decide)
  have d1 : (0 : Int) < 10 ^ 23 + 117 := by decide
  have w1 := fun st i => modI_int (st := st) (i := i) d1
  have m1 := fun st => mulD_int (st := st) (mulOk_l (i := 86028121) (j := (spot : Int)) (by decide) (by decide))
  have key : ∀ cell : Int, 0 ≤ cell % (10 ^ 23 + 117) + 86028121 * (spot : Int) + 49979687 ∧ cell % (10 ^ 23 + 117) + 86028121 * (spot : Int) + 49979687 < 10 ^ 25 := fun cell => by
    have h1 := Int.emod_nonneg cell (show (10 : Int) ^ 23 + 117 ≠ 0 by decide)
    have h2 := Int.emod_lt_of_pos cell d1
    constructor
    · omega
    · have : (10 : Int) ^ 23 = 100000000000000000000000 := by decide
      have : (10 : Int) ^ 25 = 10000000000000000000000000 := by decide
      omega
  by_cases h : spot < ns.length
  · have hat : atI (ns.map D.int) (spot : Int) = some (.int ns[spot]) := by
      rw [atI_nat (by rw [List.length_map]; exact h), List.getElem_map]
    have hlt : ((spot : Int) < (ns.length : Int)) := by omega
    generalize ns[spot] = cell at *
    by_cases hc : 10 ^ 18 ≤ cell
    · refine ⟨_, ?_, cell - 10 ^ 18, _, 1, rfl, (key cell).1, (key cell).2, by decide, by decide⟩
      unfold m_law_open
      rw [fn0_ap]
      simp [-Int.reducePow, b_law_open, envOf, hat, h, e18, e23, w1, m1, hc]
    · refine ⟨_, ?_, 0, _, 1, rfl, (key cell).1, (key cell).2, by decide, by decide⟩
      unfold m_law_open
      rw [fn0_ap]
      simp [-Int.reducePow, b_law_open, envOf, hat, h, e18, e23, w1, m1, hc]
  · refine ⟨_, ?_, 0, _, 1, rfl, (key 0).1, (key 0).2, by decide, by decide⟩
    unfold m_law_open
    rw [fn0_ap]
    have h' : ¬ ((10 : Int) ^ 18 ≤ 0) := by decide
    simp [-Int.reducePow, b_law_open, envOf, h, e18, e23, w1, m1, h']
theorem rule_spec (r : Nat) (hr : r = 1 ∨ r = 2 ∨ r = 3 ∨ r = 4) (st : Sto) : m_law_rule [.str (nmS r)] st = .ok (.obj r []) st := by
  refine fnC_same ?_ (by simp)
  rcases hr with rfl | rfl | rfl | rfl
  · have e1 : (nmS 1 == ("shortest" : Str)) = true := by decide +kernel
    simp [b_law_rule, envOf, eq_nm _ _ _ sx1, e1]
  · have e1 : (nmS 2 == ("shortest" : Str)) = false := by decide +kernel
    have e2 : (nmS 2 == ("first" : Str)) = true := by decide +kernel
    simp [b_law_rule, envOf, eq_nm _ _ _ sx1, eq_nm _ _ _ sx2, e1, e2]
  · have e1 : (nmS 3 == ("shortest" : Str)) = false := by decide +kernel
    have e2 : (nmS 3 == ("first" : Str)) = false := by decide +kernel
    have e3 : (nmS 3 == ("longest" : Str)) = true := by decide +kernel
    simp [b_law_rule, envOf, eq_nm _ _ _ sx1, eq_nm _ _ _ sx2, eq_nm _ _ _ sx3, e1, e2, e3]
  · have e1 : (nmS 4 == ("shortest" : Str)) = false := by decide +kernel
    have e2 : (nmS 4 == ("first" : Str)) = false := by decide +kernel
    have e3 : (nmS 4 == ("longest" : Str)) = false := by decide +kernel
    simp [b_law_rule, envOf, eq_nm _ _ _ sx1, eq_nm _ _ _ sx2, eq_nm _ _ _ sx3, e1, e2, e3]
/-- a list of ints and None -/
def tick : Option Int → D
  | none => .non
  | some i => .int i
@[simp] theorem pl_ticks (xs : List (Option Int)) (n : Nat) : plAll (xs.map tick) n = true := plAll_all fun d hd => by
  obtain ⟨k, _, rfl⟩ := List.mem_map.mp hd
  cases k <;> simp [tick]
/-- what is read as the list: frozen, or owned -/
inductive Rds (st : Sto) (ds : List D) : D → Option Nat → Prop where
  | lst : Rds st ds (.lst ds) none
  | own {k : Nat} (h : st[k]? = some (.lst ds)) : Rds st ds (.own k) (some k)
theorem Rds.drf {st : Sto} {ds : List D} {d : D} {k : Option Nat} (h : Rds st ds d k) : drf st d = .lst ds := by
  cases h with
  | lst => rfl
  | own h => exact drf_ownL h
theorem Rds.live {st : Sto} {ds : List D} {d : D} {k : Option Nat} (h : Rds st ds d k) : liveL d st = some (ds, k) := by
  cases h with
  | lst => rfl
  | own h => exact liveL_own h
theorem Rds.isi {st : Sto} {ds : List D} {d : D} {k : Option Nat} (h : Rds st ds d k) (cs : List Nat) (T : TY) : isiD cs T d st = some (.bl (isT .lst T)) := by
  cases h with
  | lst => exact isi_lst
  | own h => exact isi_own h
theorem Rds.gd {st : Sto} {ds : List D} {d : D} {k : Option Nat} (h : Rds st ds d k) : gdP k ds st := by
  cases h with
  | lst => exact trivial
  | own h => exact h
theorem same_spec {st : Sto} {xs : List (Option Int)} {d : D} {k : Option Nat} (h : Rds st (xs.map tick) d k) (hl : xs.length ≤ 20000) : m_law_same_ticks [d, .lst (xs.map tick)] st = .ok (.bl true) st := by
  refine fnC_same ?_ (by simp)
  have h1 := h.drf
  have h2 := h.live
  have h3 := h.isi CS .lst
  have h4 : neD d (.lst (xs.map tick)) st = some (.bl false) := neD_refl h1 rfl (by simp)
  have h5 : lpLL k (xs.map tick) (nmG 2) (andM (blM (opM notN (vM 2) (cM .non))) (notM (blM (callM m_law_is_int (argM 1 [] (consA (vM 2) nilA)))))) (vM 2) (xs.map tick) [some d, some (.lst (xs.map tick)), none] [] st = .ok ((xs.filter fun _ => false).map tick) st := by
    rw [lpLL_map h.gd tick (fun _ => false) tick xs [] (fun x hx => ⟨_, rfl, ?_, by simp⟩) (by simp; exact le_LIM (by omega)), List.nil_append]
    cases x with
    | none => simp [tick]
    | some i => simp [tick, is_int_spec]
  have h6 : (xs.filter fun _ => false) = [] := by simp
  rw [h6] at h5
  simp [b_law_same_ticks, envOf, h3, h4, h2, wipeE, h5]
def prs (p : Int × Int) : D := .tup [.int p.1, .int p.2]
@[simp] theorem pl_prs (xs : List (Int × Int)) (n : Nat) : plAll (xs.map prs) (n + 1) = true := plAll_all fun d hd => by
  obtain ⟨k, _, rfl⟩ := List.mem_map.mp hd
  simp [prs]
theorem comings_spec {st : Sto} {xs : List (Int × Int)} {d : D} {k : Option Nat} (h : Rds st (xs.map prs) d k) (hl : xs.length ≤ 20000) : m_law_is_comings [d, .lst (xs.map prs)] st = .ok (.bl true) st := by
  refine fnC_same ?_ (by simp)
  have h2 := h.live
  have h3 := h.isi CS .lst
  have h4 : neD d (.lst (xs.map prs)) st = some (.bl false) := neD_refl h.drf rfl (by simp)
  obtain ⟨e, s, h5, h6⟩ := lpSL_inv (kk := k) (all := xs.map prs) (g := nmG 2) (m := l_law_is_comings_1) prs (fun _ e s => s = st ∧ ∃ o, e = [some d, some (.lst (xs.map prs)), o]) (fun _ _ _ hh => by rw [hh.1]; exact h.gd) xs 0 [some d, some (.lst (xs.map prs)), none] st ⟨rfl, _, rfl⟩ (fun j x e s hx hI => by
    obtain ⟨rfl, o, rfl⟩ := hI
    exact ⟨_, rfl, [some d, some (.lst (xs.map prs)), some (prs x)], s, .inl (by simp [l_law_is_comings_1, prs, is_int_spec]), rfl, _, rfl⟩)
  obtain ⟨rfl, o, rfl⟩ := h6
  simp [b_law_is_comings, envOf, h3, h4, h2, h5]
end G
set_option maxHeartbeats 1000000
namespace G
open PySem L2 MX
/-! ### a live day's state -/
structure LS where
  cs : List (Int × Int)
  pl : List (Option Int)
  wk : List Int
  la : Int
  to : Int
def LS.d (s : LS) : D := .tup [.lst (s.cs.map prs), .lst (s.pl.map tick), .lst (s.wk.map .int), .int s.la, .int s.to]
def opI : Option Nat → Option Int
  | none => none
  | some k => some k
theorem tick_opI (o : Option Nat) : tick (opI o) = tkD o := by cases o <;> rfl
def LS.came (s : LS) (w : Int) : LS := ⟨s.cs ++ [((s.pl.length : Int), w)], s.pl, s.wk ++ [w], s.la, s.to⟩
def wkSet (wk : List Int) : Option Nat → List Int
  | none => wk
  | some k => wk.set k (wkAt wk k - 1)
def laSet (la : Int) : Option Nat → Int
  | none => la
  | some k => k
def LS.pass (s : LS) (r : Nat) : LS := ⟨s.cs, s.pl ++ [opI (nextP r s.wk s.la)], wkSet s.wk (nextP r s.wk s.la), laSet s.la (nextP r s.wk s.la), s.to + ((s.wk.filter fun w => decide (0 < w)).length : Nat)⟩
structure LS.Sm (s : LS) (N : Nat) : Prop where
  cs : s.cs.length ≤ N
  pl : s.pl.length ≤ N
  wk : s.wk.length ≤ N
def LS.zero : LS := ⟨[], [], [], -1, 0⟩
theorem came_sm {s : LS} {N : Nat} {w : Int} (h : s.Sm N) : (s.came w).Sm (N + 1) := ⟨by simp [LS.came]; exact h.cs, by have := h.pl; show s.pl.length ≤ N + 1; omega, by simp [LS.came]; exact h.wk⟩
theorem wkSet_len (wk : List Int) (o : Option Nat) : (wkSet wk o).length = wk.length := by cases o <;> simp [wkSet]
theorem pass_sm {s : LS} {N r : Nat} (h : s.Sm N) : (s.pass r).Sm (N + 1) := ⟨by have := h.cs; show s.cs.length ≤ N + 1; omega, by simp [LS.pass]; exact h.pl, by have := h.wk; show (wkSet _ _).length ≤ N + 1; rw [wkSet_len]; omega⟩
theorem zero_sm {N : Nat} : LS.zero.Sm N := ⟨Nat.zero_le _, Nat.zero_le _, Nat.zero_le _⟩
@[simp] theorem clo_prs {n : Nat} (xs : List (Int × Int)) : cloAll n (xs.map prs) = true := cloAll_all fun d hd => by
  obtain ⟨k, _, rfl⟩ := List.mem_map.mp hd
  simp [prs]
@[simp] theorem clo_ticks {n : Nat} (xs : List (Option Int)) : cloAll n (xs.map tick) = true := cloAll_all fun d hd => by
  obtain ⟨k, _, rfl⟩ := List.mem_map.mp hd
  cases k <;> simp [tick]
@[simp] theorem clo_ls {n : Nat} (s : LS) : s.d.clo n = true := by simp [LS.d]
theorem law_came_spec {s : LS} {w : Int} {N : Nat} {st : Sto} (h : s.Sm N) (hN : N ≤ 20000) : m_law_came [s.d, .int w] st = .ok (s.came w).d st := by
  refine fnC_same ?_ (clo_ls _)
  have h1 : (s.cs.map prs).length + 1 ≤ 100000 := by rw [List.length_map]; have := h.cs; omega
  have h2 : (s.wk.map D.int).length + 1 ≤ 100000 := by rw [List.length_map]; have := h.wk; omega
  rw [List.length_map] at h1 h2
  simp [b_law_came, envOf, LS.d, h1, h2, LS.came, prs]
/-- sum over the people with work left -/
theorem lp_pos {i j n : Nat} {wk : List Int} {st : Sto} {env : MX.Env} (hi : env[j]? = some none) (hj : env.length = n) (hl : wk.length ≤ 20000) : lpL (nmG j) (blM (opM gtI (vM j) (cM (.int 0)))) (vM j) (wk.map D.int) env [] st = .ok ((wk.filter fun w => decide (0 < w)).map D.int) st := by
  have hlt := (List.getElem?_eq_some_iff.mp hi).1
  rw [lpL_map D.int (fun w => decide (0 < w)) D.int _ _ (fun k hk => ⟨_, rfl, ?_, fun _ => ?_⟩) (by simp; exact le_LIM (by omega))]
  · simp
  · have : vM j (env.set j (some (D.int k))) st = .ok (.int k) st := vM_ap (List.getElem?_set_self hlt)
    simp [this]
  · exact vM_ap (List.getElem?_set_self hlt)
theorem law_passed_spec {s : LS} {r N : Nat} {st : Sto} (hr : r = 1 ∨ r = 2 ∨ r = 3 ∨ r = 4) (h : s.Sm N) (hN : N ≤ 8000) : m_law_passed [.str (nmS r), s.d] st = .ok (s.pass r).d st := by
  refine fnC_same ?_ (clo_ls _)
  have hw := h.wk
  have hp : s.pl.length + 1 ≤ 100000 := by have := h.pl; omega
  have hn := law_next_spec r hr s.wk s.la st (by omega)
  have hlf : (s.wk.filter fun w => decide (0 < w)).length ≤ s.wk.length := List.length_filter_le _ _
  simp [b_law_passed, envOf, LS.d, hn, wipeE]
  rw [lp_pos (i := 0) (n := 10) rfl rfl (by omega)]
  have hps : s.pass r = ⟨s.cs, s.pl ++ [opI (nextP r s.wk s.la)], wkSet s.wk (nextP r s.wk s.la), laSet s.la (nextP r s.wk s.la), s.to + ((s.wk.filter fun w => decide (0 < w)).length : Nat)⟩ := rfl
  rw [hps]
  have hna : ∀ k, nextP r s.wk s.la = some k → k < s.wk.length := fun k hk => able_lt (next_able hk)
  cases e : nextP r s.wk s.la with
  | none => simp [tkD, hp, opI, tick, wkSet, laSet]
  | some k =>
    have hk := hna k e
    have c1 : cutD (s.wk.map D.int) none (some (k : Int)) = (s.wk.map D.int).take k := cutD_to
    have c2 : cutD (s.wk.map D.int) (some ((k : Int) + 1)) none = (s.wk.map D.int).drop (k + 1) := cutD_from (m := k + 1)
    have hat := atI_wk hk
    have l1 : min k s.wk.length + 1 ≤ 100000 := by omega
    have l2 : min k s.wk.length + 1 + (s.wk.length - (k + 1)) ≤ 100000 := by omega
    have l3 : (s.wk.map D.int).take k ++ [D.int (wkAt s.wk k - 1)] ++ (s.wk.map D.int).drop (k + 1) = (s.wk.set k (wkAt s.wk k - 1)).map D.int := by
      rw [List.set_eq_take_append_cons_drop, if_pos hk]
      simp
    simp only [List.append_assoc, List.singleton_append] at l3
    simp [tkD, hp, opI, tick, wkSet, laSet, c1, c2, hat, l1, l2, l3]
end G
set_option maxHeartbeats 1000000
namespace G
open PySem L2 MX
/-- a live day stands: the object, the list of its states -/
structure Live (st : Sto) (kl ks r : Nat) (pre : List D) (s : LS) : Prop where
  ob : st[kl]? = some (.obj 5 [.obj r [], .own ks])
  ls : st[ks]? = some (.lst (pre ++ [s.d]))
  cl : ∀ n, cloAll n pre = true
  ln : pre.length ≤ 20000
  ne : kl ≠ ks
theorem Live.next {st : Sto} {kl ks r : Nat} {pre : List D} {s s' : LS} (h : Live st kl ks r pre s) (hl : pre.length < 20000) : Live (st.set ks (.lst (pre ++ [s.d] ++ [s'.d]))) kl ks r (pre ++ [s.d]) s' where
  ob := by rw [get_set_ne h.ne.symm]; exact h.ob
  ls := get_set h.ls
  cl := fun n => by rw [cloAll_app, h.cl]; simp
  ln := by simp; omega
  ne := h.ne
theorem Live.other {st : Sto} {kl ks r : Nat} {pre : List D} {s : LS} (h : Live st kl ks r pre s) {k : Nat} {m : MO} (h1 : k ≠ kl) (h2 : k ≠ ks) : Live (st.set k m) kl ks r pre s where
  ob := by rw [get_set_ne h1]; exact h.ob
  ls := by rw [get_set_ne h2]; exact h.ls
  cl := h.cl
  ln := h.ln
  ne := h.ne
theorem Live.app {st t : Sto} {kl ks r : Nat} {pre : List D} {s : LS} (h : Live st kl ks r pre s) : Live (st ++ t) kl ks r pre s where
  ob := by rw [List.getElem?_append_left (List.getElem?_eq_some_iff.mp h.ob).1]; exact h.ob
  ls := by rw [List.getElem?_append_left (List.getElem?_eq_some_iff.mp h.ls).1]; exact h.ls
  cl := h.cl
  ln := h.ln
  ne := h.ne
section
variable {st : Sto} {kl ks r N : Nat} {pre : List D} {s : LS}
theorem come_spec (h : Live st kl ks r pre s) (hs : s.Sm N) (hN : N ≤ 8000) {w : Int} (hw : 1 ≤ w) : m_liveday_come [.own kl, .int w] st = .ok (.int (s.cs.length : Nat)) (st.set ks (.lst (pre ++ [s.d] ++ [(s.came w).d]))) := by
  have h1 := objD_own h.ob
  have h2 := h.ls
  have c1 : s.cs.length + 1 ≤ 100000 := by have := hs.cs; omega
  have c2 : s.wk.length + 1 ≤ 100000 := by have := hs.wk; omega
  have c3 : pre.length + 1 < 100000 := by have := h.ln; omega
  have hw' : ¬ (w < 1) := by omega
  refine fnXC_set (t := []) ?_ h2 (tame_set h2 ?_) (by simp)
  · simp [b_liveday_come, envOf, h1, h2, hw', LS.d, c1, c2, LS.came, prs]
    rw [appD_own (ds := pre ++ [s.d]) h2 (by simp; exact lt_LIM c3)]
    simp [LS.d, prs]
  · simp [MO.clo, cloAll_app, h.cl]
theorem over_spec (hr : r = 1 ∨ r = 2 ∨ r = 3 ∨ r = 4) (h : Live st kl ks r pre s) (hs : s.Sm N) (hN : N ≤ 8000) : m_liveday_over [.own kl] st = .ok (tkD (nextP r s.wk s.la)) (st.set ks (.lst (pre ++ [s.d] ++ [(s.pass r).d]))) := by
  have h1 := objD_own h.ob
  have h2 := h.ls
  have hp : s.pl.length + 1 ≤ 100000 := by have := hs.pl; omega
  have hwk := hs.wk
  have c3 : pre.length + 1 < 100000 := by have := h.ln; omega
  have hn := fun st => next_spec r hr s.wk s.la st (by omega)
  have hna : ∀ k, nextP r s.wk s.la = some k → k < s.wk.length := fun k hk => able_lt (next_able hk)
  have hps : s.pass r = ⟨s.cs, s.pl ++ [opI (nextP r s.wk s.la)], wkSet s.wk (nextP r s.wk s.la), laSet s.la (nextP r s.wk s.la), s.to + ((s.wk.filter fun w => decide (0 < w)).length : Nat)⟩ := rfl
  have hks := (List.getElem?_eq_some_iff.mp h2).1
  have hmo : (MO.lst (pre ++ [s.d] ++ [(s.pass r).d])).clo st.length = true := by simp [MO.clo, cloAll_app, h.cl]
  cases e : nextP r s.wk s.la with
  | none =>
    rw [e] at hps hn
    refine fnC_set (t := []) ?_ h2 hmo (clo_tk _ _)
    simp [b_liveday_over, envOf, h1, h2, LS.d, wipeE]
    rw [lp_pos (i := 0) (n := 9) rfl rfl (by omega)]
    simp [h1, h2, hn, tkD, hp]
    rw [appD_own (ds := pre ++ [s.d]) h2 (by simp; exact lt_LIM c3)]
    simp [LS.d, hps, tkD, hp, opI, tick, wkSet, laSet]
  | some k =>
    rw [e] at hps hn
    have hk := hna k e
    have a1 : ∀ t, objD (.own kl) (st ++ t) = some (5, [.obj r [], .own ks]) := fun t => objD_own h.app.ob
    have a2 : ∀ t : Sto, (st ++ t)[ks]? = some (.lst (pre ++ [s.d])) := fun t => h.app.ls
    have a3 : ∀ (t : Sto) m, (st ++ t).set ks m = st.set ks m ++ t := fun t m => List.set_append_left _ _ hks
    have a4 : ∀ (x y : MO), (st ++ [x]).set st.length y = st ++ [y] := fun x y => by simp
    have a5 := atI_wk hk
    have a6 : ixN s.wk.length (k : Int) = some k := ixN_nat hk
    have a7 : (s.wk.map D.int).set k (.int (wkAt s.wk k - 1)) = (s.wk.set k (wkAt s.wk k - 1)).map D.int := by rw [List.map_set]
    refine fnC_set (t := [.fz ((s.wk.set k (wkAt s.wk k - 1)).map D.int)]) ?_ h2 hmo (clo_tk _ _)
    simp [b_liveday_over, envOf, h1, h2, LS.d, wipeE]
    rw [lp_pos (i := 0) (n := 9) rfl rfl (by omega)]
    simp [h1, h2, hn, tkD, hp, a1, a2, a4, a5, a6, a7, -List.map_set]
    rw [appD_own (ds := pre ++ [s.d]) (a2 _) (by simp; exact lt_LIM c3)]
    simp [LS.d, hps, tkD, hp, opI, tick, wkSet, laSet, a3, -List.map_set]
end
end G
set_option maxHeartbeats 1000000
namespace G
open PySem L2 MX
theorem nwzK_at {c : Nat} {m : FM} {ds es : List D} {env : MX.Env} {s : Sto} (h : m (.own s.length :: ds) (s ++ [.obj c []]) = .ok .non (s ++ [.obj c es])) (hl : es.length = (lay c).length) (hc : cloAll s.length es = true) : nwzK c m ds env s = .ok (.obj c es) s := by
  unfold nwzK nwzM
  rw [Res.bind_ok, h, Res.bind_ok]
  have h1 : (s ++ [MO.obj c es])[s.length]? = some (.obj c es) := by simp
  rw [h1]
  have h2 : tame s (s ++ [MO.obj c es]) := tame_app s _
  simp [hl, hc, h2]
def rowD (ns : List Int) : D := .obj 0 [.lst ((isort ns).reverse.map .int)]
theorem row_init_spec {ns : List Int} {st : Sto} (hp : ∀ n ∈ ns, 1 ≤ n) : m_row_init [.own st.length, .lst (ns.map .int)] (st ++ [.obj 0 []]) = .ok .non (st ++ [.obj 0 [.lst ((isort ns).reverse.map .int)]]) := by
  have hk : (st ++ [MO.obj 0 []])[st.length]? = some (.obj 0 []) := by simp
  have hset : (st ++ [MO.obj 0 []]).set st.length (.obj 0 [.lst ((isort ns).reverse.map .int)]) = st ++ [.obj 0 [.lst ((isort ns).reverse.map .int)]] := by simp
  rw [← hset]
  refine fnC_set (t := []) ?_ hk (by simp [MO.clo, -List.map_reverse]) (by simp)
  obtain ⟨e, s, h5, h6⟩ := lpS_inv (g := nmG 2) (m := l_row_init_1) D.int (fun _ e s => s = st ++ [MO.obj 0 []] ∧ ∃ o, e = [some (.own st.length), some (.lst (ns.map .int)), o]) ns 0 [some (.own st.length), some (.lst (ns.map .int)), none] (st ++ [MO.obj 0 []]) ⟨rfl, _, rfl⟩ (fun j x e s hx hI => by
    obtain ⟨rfl, o, rfl⟩ := hI
    have hx1 := hp x (List.mem_of_getElem? hx)
    have hx2 : ¬ (x < 1) := by omega
    exact ⟨_, rfl, [some (.own st.length), some (.lst (ns.map .int)), some (.int x)], _, .inl (by simp [l_row_init_1, is_integer_spec, hx2]), rfl, _, rfl⟩)
  obtain ⟨rfl, o, rfl⟩ := h6
  simp [b_row_init, envOf, h5, MX.putAt]
theorem row_new {ns : List Int} {st : Sto} {env : MX.Env} (hp : ∀ n ∈ ns, 1 ≤ n) : nwzK 0 m_row_init [.lst (ns.map .int)] env st = .ok (rowD ns) st :=
  nwzK_at (row_init_spec hp) rfl (by simp [-List.map_reverse])
@[simp] theorem clo_row {n : Nat} (ns : List Int) : (rowD ns).clo n = true := by simp [rowD, -List.map_reverse]
def pos (wk : List Int) : List Int := wk.filter fun w => decide (0 < w)
theorem pos_pos {wk : List Int} : ∀ n ∈ pos wk, 1 ≤ n := fun n hn => by
  have := (List.mem_filter.mp hn).2
  simp at this
  omega
section
variable {st : Sto} {kl ks r N : Nat} {pre : List D} {s : LS}
theorem live_row_spec (h : Live st kl ks r pre s) (hs : s.Sm N) (hN : N ≤ 8000) : m_liveday_row [.own kl] st = .ok (rowD (pos s.wk)) st := by
  have h1 := objD_own h.ob
  have h2 := h.ls
  have hwk := hs.wk
  refine fnC_same ?_ (clo_row _)
  simp [b_liveday_row, envOf, h1, h2, LS.d, wipeE]
  rw [lp_pos (i := 0) (n := 2) rfl rfl (by omega)]
  have := row_new (st := st) (env := [some (.own kl), none]) (pos_pos (wk := s.wk))
  unfold pos at this
  simp [this]
  rfl
theorem row_parts_spec {ns : List Int} : m_row_parts [rowD ns] st = .ok (.own st.length) (st ++ [.lst ((isort ns).reverse.map .int)]) := by
  unfold m_row_parts
  rw [fn0_ap]
  simp [b_row_parts, envOf, rowD, -List.map_reverse]
theorem live_len_spec (h : Live st kl ks r pre s) : m_liveday_len [.own kl] st = .ok (.int pre.length) st := by
  have h1 := objD_own h.ob
  have h2 := h.ls
  refine fnC_same ?_ (by simp)
  have : cutD (pre ++ [s.d]) (some 1) none = (pre ++ [s.d]).drop 1 := cutD_from (m := 1)
  simp [b_liveday_len, envOf, h1, h2, this]
theorem live_minute_spec (h : Live st kl ks r pre s) : m_liveday_minute [.own kl] st = .ok (.int s.pl.length) st := by
  have h1 := objD_own h.ob
  have h2 := h.ls
  refine fnC_same ?_ (by simp)
  simp [b_liveday_minute, envOf, h1, h2, LS.d]
theorem live_waiting_spec (h : Live st kl ks r pre s) : m_liveday_waiting [.own kl] st = .ok (.int s.to) st := by
  have h1 := objD_own h.ob
  have h2 := h.ls
  refine fnC_same ?_ (by simp)
  simp [b_liveday_waiting, envOf, h1, h2, LS.d]
theorem live_plan_spec (h : Live st kl ks r pre s) : m_liveday_plan [.own kl] st = .ok (.own st.length) (st ++ [.lst (s.pl.map tick)]) := by
  have h1 := objD_own h.ob
  have h2 := h.ls
  unfold m_liveday_plan
  rw [fn0_ap]
  simp [b_liveday_plan, envOf, h1, h2, LS.d]
theorem live_comings_spec (h : Live st kl ks r pre s) : m_liveday_comings [.own kl] st = .ok (.own st.length) (st ++ [.lst (s.cs.map prs)]) := by
  have h1 := objD_own h.ob
  have h2 := h.ls
  unfold m_liveday_comings
  rw [fn0_ap]
  simp [b_liveday_comings, envOf, h1, h2, LS.d]
theorem ints_ticks (ns : List Int) : ns.map D.int = (ns.map some).map tick := by rw [List.map_map]; rfl
theorem isort_len (ns : List Int) : (isort ns).length = ns.length := (isort_perm ns).length_eq
theorem tells_spec (h : Live st kl ks r pre s) (hs : s.Sm N) (hN : N ≤ 8000) (what : Nat) (hw : what < 6) : m_law_tells [.own kl, s.d, .int pre.length, .int what] st = .ok (.bl true) st := by
  have e1 := live_len_spec h
  have e2 := live_minute_spec h
  have e3 := live_waiting_spec h
  have e4 := live_plan_spec h
  have e5 := live_comings_spec h
  have e6 := live_row_spec h hs hN
  have hob := objD_own h.ob
  have hcl := hs.cs
  have hpl := hs.pl
  have hwl := hs.wk
  have hln := h.ln
  have hkl := (List.getElem?_eq_some_iff.mp h.ob).1
  have hlp : (pre.length : Int) < 2 ^ 63 := by omega
  rcases (show what = 0 ∨ what = 1 ∨ what = 2 ∨ what = 3 ∨ what = 4 ∨ what = 5 by omega) with rfl | rfl | rfl | rfl | rfl | rfl
  · refine fnC_same ?_ (by simp)
    have l2 : ∀ env, lenOK2 (.int (pre.length : Nat)) env st = .ok (.int (pre.length : Nat)) st := fun env => lenOK2_ap (by omega) hlp
    simp [b_law_tells, envOf, hob, e1, is_int_spec, l2]
  · refine fnC_same ?_ (by simp)
    simp [b_law_tells, envOf, hob, e2, is_int_spec, LS.d]
  · refine fnC_same ?_ (by simp)
    simp [b_law_tells, envOf, hob, e3, is_int_spec, LS.d]
  · have s1 := same_spec (st := st ++ [.lst (s.pl.map tick)]) (d := .own st.length) (k := some st.length) (xs := s.pl) (.own (by simp)) (by omega)
    refine fnC_pure (t := [.lst ((s.pl.map tick).reverse ++ [.int 0])]) ?_ (by simp)
    have hl : s.pl.length < 100000 := by omega
    simp (maxDischargeDepth := 6) [b_law_tells, envOf, hob, e4, LS.d, s1, hl, -List.map_reverse]
  · have s1 := comings_spec (st := st ++ [.lst (s.cs.map prs)]) (d := .own st.length) (k := some st.length) (xs := s.cs) (.own (by simp)) (by omega)
    refine fnC_pure (t := [.lst ((s.cs.map prs).reverse ++ [.int 0])]) ?_ (by simp)
    have hl : s.cs.length < 100000 := by omega
    simp (maxDischargeDepth := 6) [b_law_tells, envOf, hob, e5, LS.d, s1, hl, -List.map_reverse]
  · have hpo : (pos s.wk).length ≤ s.wk.length := List.length_filter_le _ _
    have s1 := same_spec (st := st ++ [.lst (((isort (pos s.wk)).reverse.map some).map tick)]) (d := .own st.length) (k := some st.length) (xs := (isort (pos s.wk)).reverse.map some) (.own (by simp)) (by simp [isort_len]; omega)
    rw [← ints_ticks] at s1
    have e7 := row_parts_spec (st := st) (ns := pos s.wk)
    have hi : isiD CS (.cls 0) (rowD (pos s.wk)) st = some (.bl true) := isi_obj (by decide)
    refine fnC_pure (t := [.lst (((isort (pos s.wk)).reverse.map .int).reverse ++ [.int 0])]) ?_ (by simp)
    have hl : (isort (pos s.wk)).length < 100000 := by rw [isort_len]; omega
    have ho : objD (rowD (pos s.wk)) st = some (0, [.lst ((isort (pos s.wk)).reverse.map .int)]) := rfl
    simp (maxDischargeDepth := 6) [b_law_tells, envOf, hob, e6, LS.d, hi, ho, e7, -List.map_reverse, wipeE]
    rw [lp_pos (i := 0) (n := 8) rfl rfl (by omega)]
    unfold pos at *
    simp [-List.map_reverse]
    rw [← List.map_reverse]
    simp (maxDischargeDepth := 6) [s1, hl, -List.map_reverse]
end
end G
set_option maxHeartbeats 1000000
namespace G
open PySem L2 MX
section
variable {st : Sto} {kl ks r N : Nat} {pre : List D} {s : LS}
theorem lrg6 : lrgOk 0 6 := by decide
theorem shows_loop (h : Live st kl ks r pre s) (hs : s.Sm N) (hN : N ≤ 8000) (xs : List Nat) (hx : ∀ x ∈ xs, x < 6) (l e5 : D) (e4 : Option D) (t : Sto) :
    ∃ e, lpS (nmG 5) l_law_shows_1 (xs.map nat) [some (.own kl), some s.d, some (.int pre.length), some l, some e5, e4] (st ++ t) = .nx e (st ++ t) := by
  obtain ⟨e, s', h5, h6⟩ := lpS_inv (g := nmG 5) (m := l_law_shows_1) nat (fun _ e s' => s' = st ++ t ∧ ∃ o, e = [some (.own kl), some s.d, some (.int pre.length), some l, some e5, o]) xs 0 _ (st ++ t) ⟨rfl, e4, rfl⟩ (fun j x e s' hxj hI => by
    obtain ⟨rfl, o, rfl⟩ := hI
    have := tells_spec (h.app (t := t)) hs hN x (hx x (List.mem_of_getElem? hxj))
    exact ⟨_, rfl, [some (.own kl), some s.d, some (.int pre.length), some l, some e5, some (nat x)], _, .inl (by simp [l_law_shows_1, nat, this]), rfl, _, rfl⟩)
  obtain ⟨rfl, o, rfl⟩ := h6
  exact ⟨_, h5⟩
theorem shows_spec (h : Live st kl ks r pre s) (hs : s.Sm N) (hN : N ≤ 8000) (o : Nat) (ho : o < 12) : m_law_shows [.own kl, s.d, .int pre.length, .int o] st = .ok (.bl true) st := by
  have hd : (o : Int) / 2 = ((o / 2 : Nat) : Int) := by omega
  have e1 := fun st => divI_int (st := st) (i := o) (j := 2) (by decide) (by decide)
  generalize hA : (List.range 6).map (fun (i : Nat) => D.int i) ++ (List.range 6).map (fun (i : Nat) => D.int i) = A
  have hA2 : A = (List.range 6 ++ List.range 6).map nat := by rw [← hA, List.map_append]; rfl
  have hA3 : A.reverse = (List.range 6 ++ List.range 6).reverse.map nat := by rw [hA2, List.map_reverse]
  have hc : catL (.lst ((List.range 6).map (fun (i : Nat) => D.int i))) (.lst ((List.range 6).map (fun (i : Nat) => D.int i))) st = some A := by rw [catL_lst (by simp), hA]
  have hx : ∀ x ∈ List.range 6 ++ List.range 6, x < 6 := fun x hx => by
    rcases List.mem_append.mp hx with h | h <;> exact List.mem_range.mp h
  have hlr : ∀ env st, lrgK (.int 6) env st = .ok ((List.range 6).map (fun (i : Nat) => D.int i)) st := fun env st => by
    rw [lrgK_at lrg6, rgD0]; rfl
  by_cases h5 : 5 < o
  · obtain ⟨e, hl⟩ := shows_loop h hs hN ((List.range 6 ++ List.range 6).reverse.drop (o / 2)) (fun x hx2 => hx x (List.mem_reverse.mp (List.mem_of_mem_drop hx2))) (.int o) (.own st.length) none [.lst A.reverse]
    have hcut : cutD A.reverse (some ((o : Int) / 2)) none = ((List.range 6 ++ List.range 6).reverse.drop (o / 2)).map nat := by rw [hd, cutD_from, hA3, List.map_drop]
    have h5' : (5 : Int) < (o : Int) := by omega
    refine fnC_pure (t := [.lst A.reverse]) ?_ (by simp)
    simp (maxDischargeDepth := 6) [b_law_shows, envOf, hlr, hc, h5', e1, hcut, hl, -List.map_reverse, -List.map_drop, -List.reverse_append]
  · obtain ⟨e, hl⟩ := shows_loop h hs hN ((List.range 6 ++ List.range 6).drop (o / 2)) (fun x hx2 => hx x (List.mem_of_mem_drop hx2)) (.int o) (.own st.length) none [.lst A]
    have hcut : cutD A (some ((o : Int) / 2)) none = ((List.range 6 ++ List.range 6).drop (o / 2)).map nat := by rw [hd, cutD_from, hA2, List.map_drop]
    have h5' : ¬ ((5 : Int) < (o : Int)) := by omega
    refine fnC_pure (t := [.lst A]) ?_ (by simp)
    simp (maxDischargeDepth := 6) [b_law_shows, envOf, hlr, hc, h5', e1, hcut, hl, -List.map_reverse, -List.map_drop, -List.reverse_append]
end
theorem live_init_spec {st : Sto} {r : Nat} : m_liveday_init [.own st.length, .obj r []] (st ++ [.obj 5 []]) = .ok .non (st ++ [.obj 5 [.obj r [], .own (st.length + 1)], .lst [LS.zero.d]]) := by
  unfold m_liveday_init
  rw [fn0_ap]
  have h1 : (st ++ [MO.obj 5 []])[st.length]? = some (.obj 5 []) := by simp
  have h2 : (st ++ [MO.obj 5 []]).set st.length (.obj 5 [.obj r []]) = st ++ [.obj 5 [.obj r []]] := by simp
  simp [b_liveday_init, envOf, setFldK1_ap h1, MX.putAt, h2]
  rfl
end G
set_option maxHeartbeats 1000000
namespace G
open PySem L2 MX
section
variable {st : Sto} {kl ks r N : Nat} {pre ls : List D} {s : LS}
/-- deeds taken back -/
theorem back_spec (h : Live st kl ks r pre s) {q : Nat} (hq : q ≤ pre.length) : m_liveday_back [.own kl, .int q] st = .ok .non ((st ++ [MO.lst ((pre ++ [s.d]).take (pre.length + 1 - q))]).set kl (.obj 5 [.obj r [], .own st.length])) := by
  have h1 := objD_own h.ob
  have h2 := h.ls
  have hkl := (List.getElem?_eq_some_iff.mp h.ob).1
  unfold m_liveday_back
  rw [fn0_ap]
  have c1 : ¬ ((pre.length : Int) + 1 ≤ (q : Int)) := by omega
  have c2 : ((pre.length : Int) + 1 - (q : Int)) = ((pre.length + 1 - q : Nat) : Int) := by omega
  have c3 : cutD (pre ++ [s.d]) none (some ((pre.length : Int) + 1 - (q : Int))) = (pre ++ [s.d]).take (pre.length + 1 - q) := by rw [c2, cutD_to]
  have h3 : (st ++ [MO.lst ((pre ++ [s.d]).take (pre.length + 1 - q))])[kl]? = some (.obj 5 [.obj r [], .own ks]) := by rw [List.getElem?_append_left hkl]; exact h.ob
  simp [b_liveday_back, envOf, h1, h2, c1, c3]
  rw [setFldK1_ap h3 (by simp)]
  simp [MX.putAt]
end
/-- the trail: a list of states -/
def trD (tr : List LS) : D := .lst (tr.map LS.d)
/-- a live day whose states are the trail -/
structure Day (st : Sto) (kl ks r : Nat) (tr : List LS) : Prop where
  ob : st[kl]? = some (.obj 5 [.obj r [], .own ks])
  ls : st[ks]? = some (.lst (tr.map LS.d))
  ne : kl ≠ ks
  nn : tr ≠ []
  ln : tr.length ≤ 9000
  sm : ∀ s ∈ tr, s.Sm 7000
theorem clo_trail (tr : List LS) (n : Nat) : cloAll n (tr.map LS.d) = true := cloAll_all fun d hd => by
  obtain ⟨s, _, rfl⟩ := List.mem_map.mp hd
  exact clo_ls s
theorem Day.live {st : Sto} {kl ks r : Nat} {tr : List LS} {s : LS} (h : Day st kl ks r (tr ++ [s])) : Live st kl ks r (tr.map LS.d) s where
  ob := h.ob
  ls := by rw [h.ls, List.map_append]; rfl
  cl := fun n => clo_trail tr n
  ln := by have := h.ln; simp at this ⊢; omega
  ne := h.ne
theorem last_of {tr : List LS} (h : tr ≠ []) : ∃ t s, tr = t ++ [s] := ⟨tr.dropLast, tr.getLast h, (List.dropLast_concat_getLast h).symm⟩
/-- two stores agree off a list of places -/
structure Keep (S : List Nat) (st st' : Sto) : Prop where
  le : st.length ≤ st'.length
  at_ : ∀ j, j < st.length → j ∉ S → st'[j]? = st[j]?
theorem Keep.refl (S : List Nat) (st : Sto) : Keep S st st := ⟨Nat.le_refl _, fun _ _ _ => rfl⟩
theorem Keep.trans {S : List Nat} {a b c : Sto} (h : Keep S a b) (q : Keep S b c) : Keep S a c := ⟨Nat.le_trans h.le q.le, fun j hj hn => by rw [q.at_ j (Nat.lt_of_lt_of_le hj h.le) hn, h.at_ j hj hn]⟩
theorem Keep.sub {S S' : List Nat} {a b : Sto} (h : Keep S a b) (hs : ∀ j ∈ S, j ∈ S') : Keep S' a b := ⟨h.le, fun j hj hn => h.at_ j hj fun hm => hn (hs j hm)⟩
theorem keep_set {st : Sto} {k : Nat} {m : MO} : Keep [k] st (st.set k m) := ⟨by rw [List.length_set]; exact Nat.le_refl _, fun j _ hn => get_set_ne fun e => hn (by rw [e]; exact List.mem_singleton.mpr rfl)⟩
theorem keep_app {S : List Nat} {st t : Sto} : Keep S st (st ++ t) := ⟨by rw [List.length_append]; omega, fun j hj _ => List.getElem?_append_left hj⟩
theorem Day.keep {S : List Nat} {st st' : Sto} {kl ks r : Nat} {tr : List LS} (h : Day st kl ks r tr) (k : Keep S st st') (h1 : kl ∉ S) (h2 : ks ∉ S) : Day st' kl ks r tr where
  ob := by rw [k.at_ _ (List.getElem?_eq_some_iff.mp h.ob).1 h1]; exact h.ob
  ls := by rw [k.at_ _ (List.getElem?_eq_some_iff.mp h.ls).1 h2]; exact h.ls
  ne := h.ne
  nn := h.nn
  ln := h.ln
  sm := h.sm
section
variable {st : Sto} {kl ks r N k : Nat} {tr : List LS} {s : LS} {p : List D}
theorem day_come (h : Day st kl ks r (tr ++ [s])) (hl : tr.length < 8500) (hs : s.Sm 6999) {w : Int} (hw : 1 ≤ w) : ∃ st', m_liveday_come [.own kl, .int w] st = .ok (.int (s.cs.length : Nat)) st' ∧ Keep [ks] st st' ∧ st'.length = st.length ∧ Day st' kl ks r (tr ++ [s] ++ [s.came w]) := by
  refine ⟨_, come_spec h.live (h.sm s (by simp)) (by decide) hw, keep_set, List.length_set, ?_, ?_, h.ne, by simp, by simp; omega, fun x hx => ?_⟩
  · rw [get_set_ne h.ne.symm]; exact h.ob
  · rw [get_set h.live.ls]; simp
  · rcases List.mem_append.mp hx with hx | hx
    · exact h.sm x hx
    · rw [List.mem_singleton.mp hx]; exact came_sm hs
theorem day_over (hr : r = 1 ∨ r = 2 ∨ r = 3 ∨ r = 4) (h : Day st kl ks r (tr ++ [s])) (hl : tr.length < 8500) (hs : s.Sm 6999) : ∃ st', m_liveday_over [.own kl] st = .ok (tkD (nextP r s.wk s.la)) st' ∧ Keep [ks] st st' ∧ st'.length = st.length ∧ Day st' kl ks r (tr ++ [s] ++ [s.pass r]) := by
  refine ⟨_, over_spec hr h.live (h.sm s (by simp)) (by decide), keep_set, List.length_set, ?_, ?_, h.ne, by simp, by simp; omega, fun x hx => ?_⟩
  · rw [get_set_ne h.ne.symm]; exact h.ob
  · rw [get_set h.live.ls]; simp
  · rcases List.mem_append.mp hx with hx | hx
    · exact h.sm x hx
    · rw [List.mem_singleton.mp hx]; exact pass_sm hs
theorem day_back (h : Day st kl ks r tr) {q : Nat} (hq : q < tr.length) : ∃ st', m_liveday_back [.own kl, .int q] st = .ok .non st' ∧ Keep [kl] st st' ∧ st'.length = st.length + 1 ∧ Day st' kl st.length r (tr.take (tr.length - q)) := by
  obtain ⟨t, s, rfl⟩ := last_of h.nn
  have hkl := (List.getElem?_eq_some_iff.mp h.ob).1
  simp at hq
  have hb := back_spec h.live (q := q) (by rw [List.length_map]; omega)
  rw [List.length_map] at hb
  refine ⟨_, hb, ⟨by simp, fun j hj hn => ?_⟩, by simp, ?_, ?_, by omega, ?_, by have := h.ln; simp at this ⊢; omega, fun x hx => h.sm x (List.mem_of_mem_take hx)⟩
  · rw [get_set_ne (fun e => hn (by rw [e]; exact List.mem_singleton.mpr rfl)), List.getElem?_append_left hj]
  · rw [List.getElem?_set_self (by simp; omega)]
  · rw [get_set_ne (by omega)]
    have e : t.map LS.d ++ [s.d] = (t ++ [s]).map LS.d := by simp
    rw [e, ← List.map_take]
    simp
  · intro e
    have := congrArg List.length e
    simp at this
    omega
theorem day_shows (h : Day st kl ks r tr) (o : Nat) (ho : o < 12) {s : LS} {t : List LS} (e : tr = t ++ [s]) : m_law_shows [.own kl, s.d, .int (tr.length - 1 : Nat), .int o] st = .ok (.bl true) st := by
  subst e
  have := shows_spec h.live (h.sm s (by simp)) (by decide) o ho
  rw [List.length_map] at this
  have e2 : (t ++ [s]).length - 1 = t.length := by simp
  rw [e2]
  exact this
theorem pick_at {N : Nat} {many : Int} (hk : st[k]? = some (.lst p)) (hp : Pool N p) (hN : N < 10 ^ 9) (h0 : 0 < many) (h1 : many < 10 ^ 40) :
    ∃ (q : Nat) (st' : Sto) (p' : List D), m_law_pick [.own k, .int many] st = .ok (.int q) st' ∧ Keep [k] st st' ∧ st'.length = st.length ∧ st'[k]? = some (.lst p') ∧ Pool (N + 1) p' ∧ (q : Int) < many := by
  obtain ⟨q, p', h2, h3, h4, h5⟩ := pick_spec hk hp hN h0 h1
  obtain ⟨q, rfl⟩ := Int.eq_ofNat_of_zero_le h4
  exact ⟨q, _, p', h2, keep_set, List.length_set, get_set hk, h3, h5⟩
end
end G
set_option maxHeartbeats 1000000
namespace G
open PySem L2 MX
theorem Sm_mono {s : LS} {N M : Nat} (h : s.Sm N) (hl : N ≤ M) : s.Sm M := ⟨Nat.le_trans h.cs hl, Nat.le_trans h.pl hl, Nat.le_trans h.wk hl⟩
theorem seqS_nx {m m2 : SM} {env e : MX.Env} {st s : Sto} (h : m env st = .nx e s) : seqS m m2 env st = m2 e s := by rw [seqS_ap, h, sq_nx]
theorem tryA_er {ids : List Nat} {sub : Nat → Bool} {i c : Nat} {b : SM} {su : Nat → Nat → SM} {env e : MX.Env} {st s : Sto} {y : SRes} (h : b env st = .er ⟨c, none⟩ e s) (hc : c ∈ ids) (hs : sub c = true) (hy : ∀ a, (su c a (e.set i (some (.adr a))) s).gone i = y) : tryA ids sub i b su env st = y.calm :=
  (tryS_er h hc hs).trans (congrArg SRes.calm (asK_at hy))
/-- no work of a person -/
def Odd (st : Sto) (v : D) : Prop := (∃ i : Int, i < 1 ∧ v = .int i) ∨ (∃ b, v = .bl b) ∨ (∃ t, tyD st v = some t ∧ t.isIn CS = true ∧ isT t .int = false)
theorem tyD_app {st x : Sto} {v : D} {t : TY} (h : tyD st v = some t) : tyD (st ++ x) v = some t := by
  cases v with
  | own k =>
    cases z : st[k]? with
    | none => unfold tyD at h; simp only [z] at h; cases h
    | some m =>
      have z2 : (st ++ x)[k]? = some m := by rw [List.getElem?_append_left (List.getElem?_eq_some_iff.mp z).1]; exact z
      unfold tyD at h ⊢
      simp only [z] at h
      simp only [z2]
      exact h
  | _ => exact h
section
variable {st : Sto} {kl ks r N : Nat} {tr : List LS} {v : D}
theorem come_odd (h : Odd st v) : m_liveday_come [.own kl, v] st = .er ⟨14, none⟩ st := by
  refine fnXC_er ?_
  rcases h with ⟨i, hi, rfl⟩ | ⟨b, rfl⟩ | ⟨t, h1, h2, h3⟩
  · simp [b_liveday_come, envOf, hi]
  · simp [b_liveday_come, envOf]
  · have := isiD_at (T := .int) h1 h2
    rw [h3] at this
    simp [b_liveday_come, envOf, this]
theorem refused_spec (h : Day st kl ks r tr) (ho : Odd st v) : m_law_refused [.own kl, v] st = .ok (.bl true) st := by
  have h1 : ∀ x, objD (.own kl) (st ++ x) = some (5, [.obj r [], .own ks]) := fun x => objD_own (by rw [List.getElem?_append_left (List.getElem?_eq_some_iff.mp h.ob).1]; exact h.ob)
  have ho2 : Odd (st ++ [.lst []]) v := by
    rcases ho with q | q | ⟨t, q, q2⟩
    · exact .inl q
    · exact .inr (.inl q)
    · exact .inr (.inr ⟨t, tyD_app q, q2⟩)
  have hc := come_odd (kl := kl) ho2
  refine fnC_pure (t := [.lst [], .lst [.bl false, .bl false, .bl false]]) ?_ (by simp)
  have key : b_law_refused (envOf 5 [.own kl, v]) st = .rt (.bl true) (st ++ [.lst [], .lst [.bl false, .bl false, .bl false]]) := by
    refine (seqS_nx (e := [some (.own kl), some v, some (.bl false), some (.own st.length), none]) (s := st ++ [.lst []]) (by simp [envOf])).trans ?_
    refine (seqS_nx (e := [some (.own kl), some v, some (.bl true), some (.own (st.length + 1)), none]) (s := st ++ [.lst [], .lst [.bl false, .bl false, .bl false]]) ?_).trans ?_
    · refine (tryA_er (c := 14) (e := [some (.own kl), some v, some (.bl false), some (.own st.length), none]) (s := st ++ [.lst []]) (y := .nx [some (.own kl), some v, some (.bl true), some (.own (st.length + 1)), none] (st ++ [.lst [], .lst [.bl false, .bl false, .bl false]])) ?_ (by simp) rfl fun a => ?_).trans (calm_nx _ _)
      · simp [h1, hc]
      · have e0 : ∀ xs, (st ++ [MO.lst [], .lst xs])[st.length + 1]? = some (.lst xs) := fun xs => by
          rw [List.getElem?_append_right (by omega), Nat.add_sub_cancel_left]; rfl
        have e1 : ∀ xs ys, (st ++ [MO.lst [], .lst xs]).set (st.length + 1) (.lst ys) = st ++ [MO.lst [], .lst ys] := fun xs ys => by
          rw [List.set_append_right _ _ (by omega), Nat.add_sub_cancel_left]; rfl
        simp [e0, e1, tyL_own (e0 _), appD_own (e0 _)]
    · have e2 : inD true (.bl true) (.own (st.length + 1)) (st ++ [.lst [], .lst [.bl false, .bl false, .bl false]]) = some (.bl true) := by
        have e0 : (st ++ [MO.lst [], .lst [.bl false, .bl false, .bl false]])[st.length + 1]? = some (.lst [.bl false, .bl false, .bl false]) := by
          rw [List.getElem?_append_right (by omega), Nat.add_sub_cancel_left]; rfl
        have e3 : rdQ (st ++ [MO.lst [], .lst [.bl false, .bl false, .bl false]]) (.own (st.length + 1)) = some [.bl false, .bl false, .bl false] := rdL_own e0
        unfold inD
        rw [e3]
        rfl
      simp [e2]
  rw [key]; rfl
end
end G
set_option maxHeartbeats 1000000
namespace G
open PySem L2 MX
/-- where a turn begins -/
structure Sit (st0 st : Sto) (k r N M : Nat) (s : LS) (tr : List LS) (p : List D) : Prop where
  day : Day st st0.length (st0.length + 1) r (tr ++ [s])
  ln : tr.length = M
  sm : s.Sm M
  pool : st[k]? = some (.lst p)
  pl : Pool N p
  kn : k < st0.length
  old : ∀ j, j < st0.length → j ≠ k → st[j]? = st0[j]?
  rr : r = 1 ∨ r = 2 ∨ r = 3 ∨ r = 4
section
variable {st0 st : Sto} {k r N M : Nat} {s : LS} {tr : List LS} {p : List D}
theorem Sit.le (h : Sit st0 st k r N M s tr p) : st0.length + 1 < st.length := (List.getElem?_eq_some_iff.mp h.day.ls).1
theorem sit_pick (h : Sit st0 st k r N M s tr p) (hN : N < 10 ^ 6) {many : Int} (h0 : 0 < many) (h1 : many < 10 ^ 40) :
    ∃ (q : Nat) (st' : Sto) (p' : List D), m_law_pick [.own k, .int many] st = .ok (.int q) st' ∧ Sit st0 st' k r (N + 1) M s tr p' ∧ (q : Int) < many := by
  have hk := h.kn
  obtain ⟨q, st', p', a1, a2, a3, a4, a5, a6⟩ := pick_at h.pool h.pl (by omega) h0 h1
  exact ⟨q, st', p', a1, ⟨h.day.keep a2 (by simp; omega) (by simp; omega), h.ln, h.sm, a4, a5, hk, fun j hj hn => by rw [a2.at_ j (by have := h.le; omega) (by simpa using hn)]; exact h.old j hj hn, h.rr⟩, a6⟩
theorem Sit.app (h : Sit st0 st k r N M s tr p) (x : Sto) : Sit st0 (st ++ x) k r N M s tr p where
  day := h.day.keep (S := []) keep_app (by simp) (by simp)
  ln := h.ln
  sm := h.sm
  pool := by rw [List.getElem?_append_left (List.getElem?_eq_some_iff.mp h.pool).1]; exact h.pool
  pl := h.pl
  kn := h.kn
  old := fun j hj hn => by rw [List.getElem?_append_left (by have := h.le; omega)]; exact h.old j hj hn
  rr := h.rr
theorem sit_come (h : Sit st0 st k r N M s tr p) (hM : M < 6000) {w : Int} (hw : 1 ≤ w) : ∃ st', m_liveday_come [.own st0.length, .int w] st = .ok (.int (s.cs.length : Nat)) st' ∧ Sit st0 st' k r N (M + 1) (s.came w) (tr ++ [s]) p := by
  have hk := h.kn
  obtain ⟨st', a1, a2, a3, a4⟩ := day_come h.day (by have := h.ln; omega) (Sm_mono h.sm (by omega)) hw
  exact ⟨st', a1, a4, by simp [h.ln], came_sm h.sm, by rw [a2.at_ k (by have := h.le; omega) (by simp; omega)]; exact h.pool, h.pl, hk, fun j hj hn => by rw [a2.at_ j (by have := h.le; omega) (by simp; omega)]; exact h.old j hj hn, h.rr⟩
theorem sit_over (h : Sit st0 st k r N M s tr p) (hM : M < 6000) : ∃ st', m_liveday_over [.own st0.length] st = .ok (tkD (nextP r s.wk s.la)) st' ∧ Sit st0 st' k r N (M + 1) (s.pass r) (tr ++ [s]) p := by
  have hk := h.kn
  obtain ⟨st', a1, a2, a3, a4⟩ := day_over h.rr h.day (by have := h.ln; omega) (Sm_mono h.sm (by omega))
  exact ⟨st', a1, a4, by simp [h.ln], pass_sm h.sm, by rw [a2.at_ k (by have := h.le; omega) (by simp; omega)]; exact h.pool, h.pl, hk, fun j hj hn => by rw [a2.at_ j (by have := h.le; omega) (by simp; omega)]; exact h.old j hj hn, h.rr⟩
theorem sit_shows (h : Sit st0 st k r N M s tr p) (o : Nat) (ho : o < 12) : m_law_shows [.own st0.length, s.d, .int (M : Nat), .int o] st = .ok (.bl true) st := by
  have := day_shows h.day o ho rfl
  have e : (tr ++ [s]).length - 1 = M := by simp [h.ln]
  rw [e] at this
  exact this
/-- the odd works are all refused -/
theorem odds_loop (h : Sit st0 st k r N M s tr p) (vs : List D) (hv : ∀ v ∈ vs, Odd st v) (e0 e1 e3 e4 e5 e6 e7 e8 e9 e10 e11 e12 : Option D) :
    ∃ o9, lpS (nmG 9) l_law_right_1 vs [e0, e1, some (.own st0.length), e3, e4, e5, e6, e7, e8, e9, e10, e11, e12] st = .nx [e0, e1, some (.own st0.length), e3, e4, e5, e6, e7, e8, o9, e10, e11, e12] st := by
  obtain ⟨e, st', h5, rfl, o9, rfl⟩ := lpS_inv (g := nmG 9) (m := l_law_right_1) id (fun _ e s => s = st ∧ ∃ o9, e = [e0, e1, some (.own st0.length), e3, e4, e5, e6, e7, e8, o9, e10, e11, e12]) vs 0 [e0, e1, some (.own st0.length), e3, e4, e5, e6, e7, e8, e9, e10, e11, e12] st ⟨rfl, _, rfl⟩ (fun j x e s hx hI => by
    obtain ⟨rfl, o9, rfl⟩ := hI
    have := refused_spec h.day (hv x (List.mem_of_getElem? hx))
    exact ⟨_, rfl, [e0, e1, some (.own st0.length), e3, e4, e5, e6, e7, e8, some x, e10, e11, e12], s, .inl (by simp [l_law_right_1, this]), rfl, _, rfl⟩)
  rw [List.map_id] at h5
  exact ⟨o9, h5⟩
end
/-- the works of nobody -/
def oddV (far turn : Int) (kd kl : Nat) : List D := [.int 0, .int (-1), .int far, .bl true, .bl false, .non, .str "3", .str "", .lst [.int 3], .tup [.int 1], .own kd, .int (0 - turn), rowD [3], .own kl, .obj 2 []]
theorem oddV_odd {st : Sto} {far turn : Int} {kd kl : Nat} {fs : List D} {ks : List (Key × D)} (h1 : far < 1) (h2 : 0 ≤ turn) (h3 : st[kd]? = some (.dic ks)) (h4 : st[kl]? = some (.obj 5 fs)) : ∀ v ∈ oddV far turn kd kl, Odd st v := by
  have td : tyD st (.own kd) = some .dic := by unfold tyD; simp only [h3]
  have tl : tyD st (.own kl) = some (.cls 5) := by unfold tyD; simp only [h4]
  intro v hv
  simp only [oddV, List.mem_cons, List.not_mem_nil, or_false] at hv
  rcases hv with rfl | rfl | rfl | rfl | rfl | rfl | rfl | rfl | rfl | rfl | rfl | rfl | rfl | rfl | rfl
  · exact .inl ⟨_, by omega, rfl⟩
  · exact .inl ⟨_, by omega, rfl⟩
  · exact .inl ⟨_, h1, rfl⟩
  · exact .inr (.inl ⟨_, rfl⟩)
  · exact .inr (.inl ⟨_, rfl⟩)
  · exact .inr (.inr ⟨.non, rfl, rfl, rfl⟩)
  · exact .inr (.inr ⟨.str, rfl, rfl, rfl⟩)
  · exact .inr (.inr ⟨.str, rfl, rfl, rfl⟩)
  · exact .inr (.inr ⟨.lst, rfl, rfl, rfl⟩)
  · exact .inr (.inr ⟨.tup, rfl, rfl, rfl⟩)
  · exact .inr (.inr ⟨.dic, td, rfl, rfl⟩)
  · exact .inl ⟨_, by omega, rfl⟩
  · exact .inr (.inr ⟨.cls 0, rfl, rfl, rfl⟩)
  · exact .inr (.inr ⟨.cls 5, tl, rfl, rfl⟩)
  · exact .inr (.inr ⟨.cls 2, rfl, rfl, rfl⟩)
end G
set_option maxHeartbeats 1000000
namespace G
open PySem L2 MX
noncomputable def deedS : SM := (ifS (blM (opM gtI (callM m_law_pick (argM 2 [] (consA (vM 0) (consA (cM (.int 3)) nilA)))) (cM (.int 0)))) (seqS (setS 10 (opM ixD (frzM (lstM (consA (cM (.int 1)) (consA (cM (.int 60)) (consA (opM addD (cM (.int 1)) (callM m_law_pick (argM 2 [] (consA (vM 0) (consA (cM (.int 60)) nilA))))) nilA))))) (callM m_law_pick (argM 2 [] (consA (vM 0) (consA (cM (.int 3)) nilA))))))
 (seqS (setS 3 (callM m_law_came (argM 2 [] (consA (vM 3) (consA (vM 10) nilA)))))
 (ifS (blM (opM neD (mthM 5 m_liveday_come (vM 2) (argM 1 [] (consA (vM 10) nilA))) (opM subI (callC lenD (consA (opM ixD (vM 3) (cM (.int 0))) nilA)) (cM (.int 1))))) (retS (cM (.bl false))) nxS))) (seqS (setS 3 (callM m_law_passed (argM 2 [] (consA (vM 1) (consA (vM 3) nilA)))))
 (ifS (notM (blM (callM m_law_same_ticks (argM 2 [] (consA (frzM (lstM (consA (mthM 5 m_liveday_over (vM 2) (argM 0 [] nilA)) nilA))) (consA (frzM (slM (opM ixD (vM 3) (cM (.int 1))) (someO (unM negI (cM (.int 1)))) noO)) nilA)))))) (retS (cM (.bl false))) nxS)))
section
variable {st0 st : Sto} {k r N M : Nat} {s : LS} {tr : List LS} {p : List D}
theorem work_at {q : Int} (h0 : 0 ≤ q) (h1 : q < 3) {x : Nat} : ∃ w : Int, 1 ≤ w ∧ atI [D.int 1, .int 60, .int (1 + (x : Int))] q = some (.int w) := by
  rcases (show q = 0 ∨ q = 1 ∨ q = 2 by omega) with rfl | rfl | rfl
  · exact ⟨1, by omega, by simp⟩
  · exact ⟨60, by omega, by simp⟩
  · exact ⟨1 + x, by omega, by simp⟩
theorem deed_spec (h : Sit st0 st k r N M s tr p) (hN : N < 10 ^ 5) (hM : M < 6000) (e4 e5 e6 e7 e8 e9 e10 e11 e12 : Option D) :
    ∃ st' s' p' o10, deedS [some (.own k), some (.str (nmS r)), some (.own st0.length), some s.d, e4, e5, e6, e7, e8, e9, e10, e11, e12] st = .nx [some (.own k), some (.str (nmS r)), some (.own st0.length), some (LS.d s'), e4, e5, e6, e7, e8, e9, o10, e11, e12] st' ∧ Sit st0 st' k r (N + 3) (M + 1) s' (tr ++ [s]) p' := by
  obtain ⟨q, st1, p1, a1, a2, a3⟩ := sit_pick h (many := 3) (by omega) (by decide) (by decide)
  have ob : ∀ {st N p}, Sit st0 st k r N M s tr p → objD (.own st0.length) st = some (5, [.obj r [], .own (st0.length + 1)]) := fun h => objD_own h.day.ob
  by_cases c : q = 0
  · subst c
    obtain ⟨st2, b1, b2⟩ := sit_over a2 hM
    have hpass := fun st => law_passed_spec (st := st) h.rr h.sm (by omega)
    have hix1 : ∀ (s : LS) st, ixD s.d (.int 1) st = some (.lst (s.pl.map tick)) := fun s st => rfl
    have hlast : cutD ((s.pass r).pl.map tick) (some (-1)) none = [tkD (nextP r s.wk s.la)] := by
      show cutD ((s.pl ++ [opI (nextP r s.wk s.la)]).map tick) (some (-1)) none = _
      rw [List.map_append, List.map_singleton, cutD_last, tick_opI]
    have hsame := fun st => same_spec (st := st) (d := .lst [tkD (nextP r s.wk s.la)]) (k := none) (xs := [opI (nextP r s.wk s.la)]) (by rw [List.map_singleton, tick_opI]; exact .lst) (by simp)
    simp only [List.map_singleton, tick_opI] at hsame
    have a1' : m_law_pick [.own k, .int 3] st = .ok (.int 0) st1 := a1
    refine ⟨st2, s.pass r, p1, e10, ?_, ⟨b2.day, b2.ln, b2.sm, b2.pool, b2.pl.mono (by omega), b2.kn, b2.old, b2.rr⟩⟩
    simp [deedS, a1', hix1, ob a2, b1, hpass, hlast, hsame]
  · obtain ⟨x, st2, p2, b1, b2, b3⟩ := sit_pick a2 (many := 60) (by omega) (by decide) (by decide)
    obtain ⟨y, st3, p3, c1, c2, c3⟩ := sit_pick b2 (many := 3) (by omega) (by decide) (by decide)
    obtain ⟨w, hw, hat⟩ := work_at (q := y) (by omega) c3 (x := x)
    obtain ⟨st4, d1, d2⟩ := sit_come c2 hM hw
    have hcame := fun st => law_came_spec (w := w) (st := st) h.sm (by omega)
    have hq : 0 < q := by omega
    have hcs : ∀ st, ixD (s.came w).d (.int 0) st = some (.lst (s.cs.map prs ++ [prs ((s.pl.length : Int), w)])) := fun st => by
      show some (D.lst ((s.cs ++ [((s.pl.length : Int), w)]).map prs)) = _
      rw [List.map_append]; rfl
    refine ⟨st4, s.came w, p3, some (.int w), ?_, d2⟩
    simp [deedS, a1, hq, b1, c1, hat, hcame, ob c2, d1, hcs]
end
end G
set_option maxHeartbeats 1000000
namespace G
open PySem L2 MX
noncomputable def oddS (X : SM) : SM := (seqS (setS 6 (opM subI (unM negI (cM (.int 2))) (callM m_law_pick (argM 2 [] (consA (vM 0) (consA (opM subI (opM powI (cM (.int 10)) (cM (.int 20))) (cM (.int 1))) nilA))))))
 (seqS (setS 7 (callM m_law_pick (argM 2 [] (consA (vM 0) (consA (cM (.int 15)) nilA)))))
 (seqS (setS 8 (frzM (lstM (consA (cM (.int 0)) (consA (unM negI (cM (.int 1))) (consA (vM 6) (consA (cM (.bl true)) (consA (cM (.bl false)) (consA (cM .non) (consA (cM (.str "3")) (consA (cM (.str "")) (consA (frzM (lstM (consA (cM (.int 3)) nilA))) (consA (tupM (consA (cM (.int 1)) nilA)) (consA dicM (consA (opM subI (cM (.int 0)) (vM 5)) (consA (nwzM 0 m_row_init (argM 1 [] (consA (frzM (lstM (consA (cM (.int 3)) nilA))) nilA))) (consA (vM 2) (consA (cM (.obj 2 [])) nilA))))))))))))))))))
 (seqS (forS (itL (frzM (catM (frzM (slM (vM 8) (someO (vM 7)) noO)) (frzM (slM (vM 8) noO (someO (vM 7))))))) (nmG 9) l_law_right_1)
 (seqS (ifS (notM (blM (callM m_law_shows (argM 4 [] (consA (vM 2) (consA (vM 3) (consA (vM 4) (consA (callM m_law_pick (argM 2 [] (consA (vM 0) (consA (cM (.int 12)) nilA)))) nilA)))))))) (retS (cM (.bl false))) nxS) X)))))
theorem turn_eq : l_law_right_2 = oddS (seqS deedS (setS 4 (opM addD (vM 4) (cM (.int 1))))) := rfl
section
variable {st0 st : Sto} {k r N M : Nat} {s : LS} {tr : List LS} {p : List D} {X : SM}
theorem odd_spec (h : Sit st0 st k r N M s tr p) (hN : N < 10 ^ 5) (turn : Nat) (e1 e6 e7 e8 e9 e10 e11 e12 : Option D) :
    ∃ st' p' o6 o7 o8 o9, oddS X [some (.own k), e1, some (.own st0.length), some s.d, some (.int (M : Nat)), some (.int turn), e6, e7, e8, e9, e10, e11, e12] st = X [some (.own k), e1, some (.own st0.length), some s.d, some (.int (M : Nat)), some (.int turn), o6, o7, o8, o9, e10, e11, e12] st' ∧ Sit st0 st' k r (N + 3) M s tr p' := by
  obtain ⟨q, st1, p1, a1, a2, a3⟩ := sit_pick h (many := 10 ^ 20 - 1) (by omega) (by decide) (by decide)
  obtain ⟨q2, st2, p2, b1, b2, b3⟩ := sit_pick a2 (many := 15) (by omega) (by decide) (by decide)
  have b2' := b2.app [.dic []]
  have hd : (st2 ++ [MO.dic []])[st2.length]? = some (.dic []) := by simp
  have hodd := oddV_odd (far := -2 - (q : Int)) (turn := turn) (by omega) (by omega) hd b2'.day.ob
  have e20 : powI (.int 10) (.int 20) = fun st => some (.int (10 ^ 20)) := by funext st; exact powI_int (by decide) (by decide) (by decide)
  generalize hvs : oddV (-2 - (q : Int)) turn st2.length st0.length = vs at hodd
  obtain ⟨o9, ol⟩ := odds_loop b2' (vs.drop q2 ++ vs.take q2) (fun v hv => by
    rcases List.mem_append.mp hv with hv | hv
    · exact hodd v (List.mem_of_mem_drop hv)
    · exact hodd v (List.mem_of_mem_take hv)) (some (.own k)) e1 (some s.d) (some (.int (M : Nat))) (some (.int turn)) (some (.int (-2 - (q : Int)))) (some (.int q2)) (some (.lst vs)) e9 e10 e11 e12
  obtain ⟨o, st3, p3, c1, c2, c3⟩ := sit_pick b2' (many := 12) (by omega) (by decide) (by decide)
  have sh := sit_shows c2 o (by omega)
  have hl : vs.length = 15 := by rw [← hvs]; rfl
  have hrow : ∀ env st, nwzK 0 m_row_init [.lst [.int 3]] env st = .ok (rowD [3]) st := fun env st => row_new (ns := [3]) (by simp)
  refine ⟨st3, p3, some (.int (-2 - (q : Int))), some (.int q2), some (.lst vs), o9, ?_, c2⟩
  have hv2 : D.lst vs = D.lst [.int 0, .int (-1), .int (-2 - (q : Int)), .bl true, .bl false, .non, .str "3", .str "", .lst [.int 3], .tup [.int 1], .own st2.length, .int (0 - (turn : Int)), rowD [3], .own st0.length, .obj 2 []] := by rw [← hvs]; rfl
  have g : ∀ Y, seqS (setS 8 (frzM (lstM (consA (cM (.int 0)) (consA (unM negI (cM (.int 1))) (consA (vM 6) (consA (cM (.bl true)) (consA (cM (.bl false)) (consA (cM .non) (consA (cM (.str "3")) (consA (cM (.str "")) (consA (frzM (lstM (consA (cM (.int 3)) nilA))) (consA (tupM (consA (cM (.int 1)) nilA)) (consA dicM (consA (opM subI (cM (.int 0)) (vM 5)) (consA (nwzM 0 m_row_init (argM 1 [] (consA (frzM (lstM (consA (cM (.int 3)) nilA))) nilA))) (consA (vM 2) (consA (cM (.obj 2 [])) nilA)))))))))))))))))) Y [some (.own k), e1, some (.own st0.length), some s.d, some (.int (M : Nat)), some (.int turn), some (.int (-2 - (q : Int))), some (.int q2), e8, e9, e10, e11, e12] st2 = Y [some (.own k), e1, some (.own st0.length), some s.d, some (.int (M : Nat)), some (.int turn), some (.int (-2 - (q : Int))), some (.int q2), some (.lst vs), e9, e10, e11, e12] (st2 ++ [.dic []]) := fun Y => seqS_nx (by rw [hv2]; simp [hrow])
  have hct : ∀ st, catL (.lst (vs.drop q2)) (.lst (vs.take q2)) st = some (vs.drop q2 ++ vs.take q2) := fun st => catL_lst (le_LIM (by rw [List.length_drop, List.length_take, hl]; omega))
  unfold oddS
  refine (seqS_nx (e := [some (.own k), e1, some (.own st0.length), some s.d, some (.int (M : Nat)), some (.int turn), some (.int (-2 - (q : Int))), e7, e8, e9, e10, e11, e12]) (s := st1) (by simp [-Int.reducePow, e20, a1])).trans ?_
  refine (seqS_nx (e := [some (.own k), e1, some (.own st0.length), some s.d, some (.int (M : Nat)), some (.int turn), some (.int (-2 - (q : Int))), some (.int q2), e8, e9, e10, e11, e12]) (s := st2) (by simp [b1])).trans ?_
  rw [g]
  refine (seqS_nx (e := [some (.own k), e1, some (.own st0.length), some s.d, some (.int (M : Nat)), some (.int turn), some (.int (-2 - (q : Int))), some (.int q2), some (.lst vs), o9, e10, e11, e12]) (s := st2 ++ [.dic []]) (by simp [cutD_to, cutD_from, hl, hct, ol])).trans ?_
  exact seqS_nx (by simp [c1, sh])
theorem turn_spec (h : Sit st0 st k r N M s tr p) (hN : N < 10 ^ 4) (hM : M < 6000) (turn : Nat) (e6 e7 e8 e9 e10 e11 e12 : Option D) :
    ∃ st' s' tr' p' o6 o7 o8 o9 o10, l_law_right_2 [some (.own k), some (.str (nmS r)), some (.own st0.length), some s.d, some (.int (M : Nat)), some (.int turn), e6, e7, e8, e9, e10, e11, e12] st = .nx [some (.own k), some (.str (nmS r)), some (.own st0.length), some (LS.d s'), some (.int ((M + 1 : Nat) : Int)), some (.int turn), o6, o7, o8, o9, o10, e11, e12] st' ∧ Sit st0 st' k r (N + 6) (M + 1) s' tr' p' := by
  obtain ⟨st1, p1, o6, o7, o8, o9, a1, a2⟩ := odd_spec (X := seqS deedS (setS 4 (opM addD (vM 4) (cM (.int 1))))) h (by omega) turn (some (.str (nmS r))) e6 e7 e8 e9 e10 e11 e12
  obtain ⟨st2, s2, p2, o10, b1, b2⟩ := deed_spec a2 (by omega) hM (some (.int (M : Nat))) (some (.int turn)) o6 o7 o8 o9 e10 e11 e12
  refine ⟨st2, s2, _, p2, o6, o7, o8, o9, o10, ?_, b2⟩
  rw [turn_eq, a1]
  exact (seqS_nx b1).trans (by simp)
end
end G
set_option maxHeartbeats 1000000
namespace G
open PySem L2 MX
theorem name_at {q : Int} (h0 : 0 ≤ q) (h1 : q < 4) : ∃ r, (r = 1 ∨ r = 2 ∨ r = 3 ∨ r = 4) ∧ atI [D.str "shortest", .str "first", .str "longest", .str "turns"] q = some (.str (nmS r)) := by
  rcases (show q = 0 ∨ q = 1 ∨ q = 2 ∨ q = 3 by omega) with rfl | rfl | rfl | rfl
  · exact ⟨1, .inl rfl, by simp [nmS]⟩
  · exact ⟨2, .inr (.inl rfl), by simp [nmS]⟩
  · exact ⟨3, .inr (.inr (.inl rfl)), by simp [nmS]⟩
  · exact ⟨4, .inr (.inr (.inr rfl)), by simp [nmS]⟩
section
variable {st0 st : Sto} {k r N M : Nat} {s : LS} {tr : List LS} {p : List D}
theorem turns (h : Sit st0 st k r N 0 s tr p) (hN : N < 1000) (n : Nat) (hn : n ≤ 10) (e11 e12 : Option D) :
    ∃ st' s' tr' p' o5 o6 o7 o8 o9 o10, lpS (nmG 5) l_law_right_2 ((List.range n).map nat) [some (.own k), some (.str (nmS r)), some (.own st0.length), some s.d, some (.int 0), none, none, none, none, none, none, e11, e12] st = .nx [some (.own k), some (.str (nmS r)), some (.own st0.length), some (LS.d s'), some (.int (n : Nat)), o5, o6, o7, o8, o9, o10, e11, e12] st' ∧ Sit st0 st' k r (N + 6 * n) n s' tr' p' := by
  obtain ⟨e, st', h5, h6⟩ := lpS_inv (g := nmG 5) (m := l_law_right_2) nat (fun i e st => ∃ s tr p o5 o6 o7 o8 o9 o10, e = [some (.own k), some (.str (nmS r)), some (.own st0.length), some (LS.d s), some (.int (i : Nat)), o5, o6, o7, o8, o9, o10, e11, e12] ∧ Sit st0 st k r (N + 6 * i) i s tr p) (List.range n) 0 [some (.own k), some (.str (nmS r)), some (.own st0.length), some s.d, some (.int 0), none, none, none, none, none, none, e11, e12] st ⟨s, tr, p, none, none, none, none, none, none, rfl, h⟩ (fun j x e st hx hI => by
    obtain ⟨s, tr, p, o5, o6, o7, o8, o9, o10, rfl, hT⟩ := hI
    obtain ⟨hj1, hj2⟩ := List.getElem?_eq_some_iff.mp hx
    rw [List.length_range] at hj1
    rw [Nat.zero_add] at *
    obtain ⟨st', s', tr', p', q6, q7, q8, q9, q10, a1, a2⟩ := turn_spec hT (by omega) (by omega) x o6 o7 o8 o9 o10 e11 e12
    exact ⟨_, rfl, _, st', .inl a1, s', tr', p', _, q6, q7, q8, q9, q10, rfl, by rw [show N + 6 * (j + 1) = N + 6 * j + 6 by omega]; exact a2⟩)
  obtain ⟨s', tr', p', o5, o6, o7, o8, o9, o10, rfl, hT⟩ := h6
  rw [List.length_range, Nat.zero_add] at *
  exact ⟨st', s', tr', p', o5, o6, o7, o8, o9, o10, h5, hT⟩
theorem sit_back (h : Sit st0 st k r N (M + 1) s tr p) {s1 : LS} {t1 : List LS} (e : tr = t1 ++ [s1]) : ∃ st', m_liveday_back [.own st0.length, .int 1] st = .ok .non st' ∧ Day st' st0.length st.length r (t1 ++ [s1]) ∧ Keep [st0.length] st st' := by
  obtain ⟨st', a1, a2, a3, a4⟩ := day_back h.day (q := 1) (by rw [e]; simp)
  refine ⟨st', a1, ?_, a2⟩
  rw [e] at a4
  simp at a4
  rw [show t1 ++ [s1, s] = (t1 ++ [s1]) ++ [s] by simp, List.take_left' (by simp)] at a4
  exact a4
end
noncomputable def tailS : SM := (seqS (setS 11 (opM addD (cM (.int 61)) (callM m_law_pick (argM 2 [] (consA (vM 0) (consA (opM ixD (frzM (lstM (consA (cM (.int 10)) (consA (opM powI (cM (.int 10)) (cM (.int 29))) nilA)))) (callM m_law_pick (argM 2 [] (consA (vM 0) (consA (cM (.int 2)) nilA))))) nilA))))))
 (seqS (setS 12 (callM m_law_came (argM 2 [] (consA (vM 3) (consA (vM 11) nilA)))))
 (seqS (ifS (orM (blM (opM neD (mthM 5 m_liveday_come (vM 2) (argM 1 [] (consA (vM 11) nilA))) (callC lenD (consA (opM ixD (vM 3) (cM (.int 0))) nilA)))) (notM (blM (callM m_law_shows (argM 4 [] (consA (vM 2) (consA (vM 12) (consA (opM addD (vM 4) (cM (.int 1))) (consA (callM m_law_pick (argM 2 [] (consA (vM 0) (consA (cM (.int 12)) nilA)))) nilA))))))))) (retS (cM (.bl false))) nxS)
 (retS (andV (opM isN (mthM 5 m_liveday_back (vM 2) (argM 1 [.int 1] nilA)) (cM .non)) (callM m_law_shows (argM 4 [] (consA (vM 2) (consA (vM 3) (consA (vM 4) (consA (callM m_law_pick (argM 2 [] (consA (vM 0) (consA (cM (.int 12)) nilA)))) nilA)))))))))))
section
variable {st0 st : Sto} {k r N M : Nat} {s : LS} {tr : List LS} {p : List D}
theorem tail_spec (h : Sit st0 st k r N M s tr p) (hN : N < 10 ^ 4) (hM : M < 100) (e1 e5 e6 e7 e8 e9 e10 e11 e12 : Option D) :
    ∃ st' p', tailS [some (.own k), e1, some (.own st0.length), some s.d, some (.int (M : Nat)), e5, e6, e7, e8, e9, e10, e11, e12] st = .rt (.bl true) st' ∧ st0.length ≤ st'.length ∧ (∀ j, j < st0.length → j ≠ k → st'[j]? = st0[j]?) ∧ st'[k]? = some (.lst p') ∧ Pool (N + 4) p' := by
  have hk := h.kn
  obtain ⟨q, st1, p1, a1, a2, a3⟩ := sit_pick h (many := 2) (by omega) (by decide) (by decide)
  have hm : ∃ m : Int, 0 < m ∧ m < 10 ^ 40 ∧ atI [D.int 10, .int (10 ^ 29)] (q : Int) = some (.int m) := by
    rcases (show q = 0 ∨ q = 1 by omega) with rfl | rfl
    · exact ⟨10, by decide, by decide, by simp⟩
    · exact ⟨10 ^ 29, by decide, by decide, by simp⟩
  obtain ⟨m, hm0, hm1, hat⟩ := hm
  obtain ⟨x, st2, p2, b1, b2, b3⟩ := sit_pick a2 (by omega) hm0 hm1
  obtain ⟨st3, d1, d2⟩ := sit_come b2 (by omega) (w := 61 + x) (by omega)
  obtain ⟨o, st4, p4, f1, f2, f3⟩ := sit_pick d2 (many := 12) (by omega) (by decide) (by decide)
  have sh := sit_shows f2 o (by omega)
  obtain ⟨st5, g1, g2, g3⟩ := sit_back f2 rfl
  have hp5 : st5[k]? = some (.lst p4) := by rw [g3.at_ k (by have := f2.le; omega) (by simp; omega)]; exact f2.pool
  obtain ⟨o2, st6, p6, i1, i2, i3, i4, i5, i6⟩ := pick_at (many := 12) hp5 f2.pl (by omega) (by decide) (by decide)
  have hle4 := f2.le
  have d6 := g2.keep i2 (by simp; omega) (by simp; omega)
  have sh2 := day_shows d6 o2 (by omega) rfl
  have el : (tr ++ [s]).length - 1 = M := by simp [h.ln]
  rw [el] at sh2
  have e29 : powI (.int 10) (.int 29) = fun st => some (.int (10 ^ 29)) := by funext st; exact powI_int (by decide) (by decide) (by decide)
  have hcame := fun st => law_came_spec (w := 61 + x) (st := st) h.sm (by omega)
  have hcs : ∀ st, ixD s.d (.int 0) st = some (.lst (s.cs.map prs)) := fun st => rfl
  have ob2 : objD (.own st0.length) st2 = some (5, [.obj r [], .own (st0.length + 1)]) := objD_own b2.day.ob
  have ob4 : objD (.own st0.length) st4 = some (5, [.obj r [], .own (st0.length + 1)]) := objD_own f2.day.ob
  have sh' : m_law_shows [.own st0.length, (s.came (61 + x)).d, .int ((M : Int) + 1), .int o] st4 = .ok (.bl true) st4 := sh
  refine ⟨st6, p6, ?_, by have := g3.le; omega, fun j hj hn => ?_, i4, i5⟩
  · simp [-Int.reducePow, tailS, e29, a1, hat, b1, hcame, ob2, d1, hcs, f1, sh', ob4, g1, i1, sh2]
  · rw [i2.at_ j (by have := g3.le; omega) (by simpa using hn), g3.at_ j (by omega) (by simp; omega)]
    exact f2.old j hj hn
end
end G
set_option maxHeartbeats 1000000
namespace G
open PySem L2 MX
theorem right_spec {st0 : Sto} {k : Nat} {p : List D} (hk : st0[k]? = some (.lst p)) (hP : Pool 1 p) : ∃ st', m_law_right [.own k] st0 = .ok (.bl true) st' := by
  have hkl := (List.getElem?_eq_some_iff.mp hk).1
  obtain ⟨q, st1, p1, a1, a2, a3, a4, a5, a6⟩ := pick_at (many := 4) hk hP (by decide) (by decide) (by decide)
  obtain ⟨r, hr, hn⟩ := name_at (q := q) (by omega) a6
  have hru := rule_spec r hr st1
  have hin := live_init_spec (st := st1) (r := r)
  have hs : Sit st0 (st1 ++ [.obj 5 [.obj r [], .own (st1.length + 1)], .lst [LS.zero.d]]) k r 2 0 LS.zero [] p1 := by
    refine ⟨⟨?_, ?_, by omega, by simp, by simp, fun s hs => ?_⟩, rfl, zero_sm, ?_, a5, hkl, fun j hj hn => ?_, hr⟩
    · rw [← a3]; simp
    · rw [← a3, List.getElem?_append_right (by omega), Nat.add_sub_cancel_left]; rfl
    · simp at hs; rw [hs]; exact zero_sm
    · rw [List.getElem?_append_left (by omega)]; exact a4
    · rw [List.getElem?_append_left (by omega)]; exact a2.at_ j hj (by simpa using hn)
  obtain ⟨q2, st2, p2, b1, b2, b3⟩ := sit_pick hs (many := 10) (by decide) (by decide) (by decide)
  obtain ⟨st3, s', tr', p3, o5, o6, o7, o8, o9, o10, c1, c2⟩ := turns b2 (by decide) (1 + q2) (by omega) none none
  obtain ⟨st4, p4, d1, d2, d3, d4, d5⟩ := tail_spec c2 (by omega) (by omega) (some (.str (nmS r))) o5 o6 o7 o8 o9 o10 none none
  have hrg : ∀ env st, rgK [.int (1 + (q2 : Int))] env st = .ok ((List.range (1 + q2)).map nat) st := fun env st => by
    rw [show (1 + (q2 : Int)) = ((1 + q2 : Nat) : Int) by omega, rgK_at (by omega) (by omega), rgD0, Int.toNat_natCast]; rfl
  have hz : LS.zero.d = .tup [.lst [], .lst [], .lst [], .int (-1), .int 0] := rfl
  have hb : b_law_right = seqS (setS 1 (opM ixD (frzM (lstM (consA (cM (.str "shortest")) (consA (cM (.str "first")) (consA (cM (.str "longest")) (consA (cM (.str "turns")) nilA)))))) (callM m_law_pick (argM 2 [] (consA (vM 0) (consA (cM (.int 4)) nilA))))))
    (seqS (setS 2 (newM 5 m_liveday_init (argM 1 [] (consA (callM m_law_rule (argM 1 [] (consA (vM 1) nilA))) nilA))))
    (seqS (asgS (tupM (consA (tupM (consA (frzM (lstM nilA)) (consA (frzM (lstM nilA)) (consA (frzM (lstM nilA)) (consA (unM negI (cM (.int 1))) (consA (cM (.int 0)) nilA)))))) (consA (cM (.int 0)) nilA))) (tupG 2 (consG (nmG 3) (consG (nmG 4) nilG))))
    (seqS (forS (rgM (consA (opM addD (cM (.int 1)) (callM m_law_pick (argM 2 [] (consA (vM 0) (consA (cM (.int 10)) nilA))))) nilA)) (nmG 5) l_law_right_2) tailS))) := rfl
  have key : b_law_right (envOf 13 [.own k]) st0 = .rt (.bl true) st4 := by
    rw [hb]
    rw [hz, show ((1 + q2 : Nat) : Int) = 1 + (q2 : Int) by omega] at c1
    rw [show ((1 + q2 : Nat) : Int) = 1 + (q2 : Int) by omega] at d1
    rw [a3] at b1 hin
    simp [envOf, a1, hn, hru, a3, hin, b1, hrg, c1, d1]
  refine ⟨_, fnC_ok (s2 := st4) (by rw [key]; rfl) (by simp) ⟨d2, fun j hj => ?_⟩⟩
  by_cases e : j = k
  · subst e
    obtain ⟨a, b, c, hp, _⟩ := d5
    exact .inr ⟨_, d4, by rw [hp]; simp [MO.clo]⟩
  · exact .inl (d3 j hj e)
theorem law_true : LawTrue m_law := fun ns hn => by
  obtain ⟨e, st, h5, h6⟩ := lpS_inv (g := nmG 1) (m := l_law_1) nat (fun _ e _ => ∃ o, e = [some (.scr ns), o]) (List.range (max 1 (min 3 ns.length))) 0 [some (.scr ns), none] [] ⟨_, rfl⟩ (fun j x e st hx hI => by
    obtain ⟨o, rfl⟩ := hI
    have hj := List.getElem?_eq_some_iff.mp hx
    obtain ⟨hj1, hj2⟩ := hj
    rw [List.length_range] at hj1
    have hxj : x = j := by rw [← hj2]; simp
    obtain ⟨ds, h1, h2⟩ := open_spec (st := st) (spot := x) hn (by omega)
    have h3 : (st ++ [MO.lst ds])[st.length]? = some (.lst ds) := by simp
    obtain ⟨st', h4⟩ := right_spec h3 h2
    exact ⟨_, rfl, [some (.scr ns), some (nat x)], st', .inl (by simp [l_law_1, nat, h1, h4]), _, rfl⟩)
  obtain ⟨o, rfl⟩ := h6
  have hmn : minD [.int 3, .int (ns.length : Nat)] [] = some (.int ((min 3 ns.length : Nat) : Int)) := by
    rw [minD_2]
    by_cases h : (ns.length : Int) < 3
    · rw [if_pos h, Nat.min_eq_right (by omega)]
    · rw [if_neg h, Nat.min_eq_left (by omega)]; rfl
  have hmx : maxD [.int 1, .int ((min 3 ns.length : Nat) : Int)] [] = some (.int ((max 1 (min 3 ns.length) : Nat) : Int)) := by
    rw [maxD_2]
    by_cases h : ((min 3 ns.length : Nat) : Int) > 1
    · rw [if_pos h, Nat.max_eq_right (by omega)]
    · rw [if_neg h, Nat.max_eq_left (by omega)]; rfl
  have hrg : ∀ env, rgK [.int ((max 1 (min 3 ns.length) : Nat) : Int)] env [] = .ok ((List.range (max 1 (min 3 ns.length))).map nat) [] := fun env => by
    rw [rgK_at (by omega) (by omega), rgD0, Int.toNat_natCast]; rfl
  refine ⟨[], ?_⟩
  generalize max 1 (min 3 ns.length) = q at *
  generalize min 3 ns.length = q0 at *
  refine fnC_pure (t := st) ?_ (by simp)
  simp [b_law, envOf, hmn, hmx, hrg, h5]
end G
set_option maxHeartbeats 4000000
namespace G
open PySem L2 MX
theorem all_mk {l : PySem.W.OpenLaw} {w : World} {K : PySem.W.Frag} {h : Heap} {mg : Str → Option Value} {fl : Addr} (X : K.In h) (G : h.Ns mainGlobals mg) (hfa : mg "law" = some (.ref fl))
    {c0 c1 c2 c3 c4 c5 c10 c11 c12 c13 c14 c15 c16 c17 c18 c19 c20 c21 c22 c23 c24 f19 f34 f30 f39 f26 f31 f32 f27 f36 f1 f2 f25 f3 f23 f24 f28 f37 f38 f33 f35 f20 f22 f40 f18 f21 f41 f29 f42 p26 p27 p25 p3 p24 p28 kd22 : Addr} {od19 an19 od34 an34 od30 an30 od39 an39 od26 an26 od31 an31 od32 an32 od27 an27 od36 an36 od1 an1 od2 an2 od25 an25 od3 an3 od23 an23 od24 an24 od28 an28 od37 an37 od38 an38 od33 an33 od35 an35 od20 an20 od22 an22 od40 an40 od18 an18 od21 an21 od41 an41 od29 an29 od42 an42 : Option Addr} {sl19 sl34 sl30 sl39 sl26 sl31 sl32 sl27 sl36 sl1 sl2 sl25 sl3 sl23 sl24 sl28 sl37 sl38 sl33 sl35 sl20 sl22 sl40 sl18 sl21 sl41 sl29 sl42 : Array (Option Value)} {oc19 kV19 dc19 pm19 cd19 ct19 oc34 kV34 dc34 pm34 cd34 ct34 oc30 kV30 dc30 pm30 cd30 ct30 oc39 kV39 dc39 pm39 cd39 ct39 oc26 kV26 dc26 pm26 cd26 ct26 oc31 kV31 dc31 pm31 cd31 ct31 oc32 kV32 dc32 pm32 cd32 ct32 oc27 kV27 dc27 pm27 cd27 ct27 oc36 kV36 dc36 pm36 cd36 ct36 oc1 kV1 dc1 pm1 cd1 ct1 oc2 kV2 dc2 pm2 cd2 ct2 oc25 kV25 dc25 pm25 cd25 ct25 oc3 kV3 dc3 pm3 cd3 ct3 oc23 kV23 dc23 pm23 cd23 ct23 oc24 kV24 dc24 pm24 cd24 ct24 oc28 kV28 dc28 pm28 cd28 ct28 oc37 kV37 dc37 pm37 cd37 ct37 oc38 kV38 dc38 pm38 cd38 ct38 oc33 kV33 dc33 pm33 cd33 ct33 oc35 kV35 dc35 pm35 cd35 ct35 oc20 kV20 dc20 pm20 cd20 ct20 oc22 dc22 pm22 cd22 ct22 oc40 kV40 dc40 pm40 cd40 ct40 oc18 kV18 dc18 pm18 cd18 ct18 oc21 kV21 dc21 pm21 cd21 ct21 oc41 kV41 dc41 pm41 cd41 ct41 oc29 kV29 dc29 pm29 cd29 ct29 oc42 kV42 dc42 pm42 cd42 ct42 : Value} {tk22 : Tok} {rest26 rest27 rest25 rest3 rest24 rest28 : List Value}
    (ac0 : PySem.W.nsIn K mainGlobals "Row" = some (some (.ref c0)))
    (ac1 : PySem.W.nsIn K mainGlobals "Shortest" = some (some (.ref c1)))
    (ac2 : PySem.W.nsIn K mainGlobals "First" = some (some (.ref c2)))
    (ac3 : PySem.W.nsIn K mainGlobals "Longest" = some (some (.ref c3)))
    (ac4 : PySem.W.nsIn K mainGlobals "Turns" = some (some (.ref c4)))
    (ac5 : PySem.W.nsIn K mainGlobals "LiveDay" = some (some (.ref c5)))
    (pg0 : PySem.W.plainGet K c0 Str.empty = true)
    (hd0 : PySem.W.hasDictIn K c0 = true)
    (po0 : PySem.W.plainOver K c0 = true)
    (sa0 : PySem.W.findIn K (.ref c0) "__setattr__" = some (some (.builtin "object.__setattr__")))
    (mk0 : PySem.W.makesIn K c0 = true)
    (kc0 : PySem.W.keepIn K (.ref c0) = true)
    (pg1 : PySem.W.plainGet K c1 Str.empty = true)
    (hd1 : PySem.W.hasDictIn K c1 = true)
    (po1 : PySem.W.plainOver K c1 = true)
    (sa1 : PySem.W.findIn K (.ref c1) "__setattr__" = some (some (.builtin "object.__setattr__")))
    (mk1 : PySem.W.makesIn K c1 = true)
    (kc1 : PySem.W.keepIn K (.ref c1) = true)
    (in1 : PySem.W.findIn K (.ref c1) "__init__" = some (some (.builtin "object.__init__")))
    (pg2 : PySem.W.plainGet K c2 Str.empty = true)
    (hd2 : PySem.W.hasDictIn K c2 = true)
    (po2 : PySem.W.plainOver K c2 = true)
    (sa2 : PySem.W.findIn K (.ref c2) "__setattr__" = some (some (.builtin "object.__setattr__")))
    (mk2 : PySem.W.makesIn K c2 = true)
    (kc2 : PySem.W.keepIn K (.ref c2) = true)
    (in2 : PySem.W.findIn K (.ref c2) "__init__" = some (some (.builtin "object.__init__")))
    (pg3 : PySem.W.plainGet K c3 Str.empty = true)
    (hd3 : PySem.W.hasDictIn K c3 = true)
    (po3 : PySem.W.plainOver K c3 = true)
    (sa3 : PySem.W.findIn K (.ref c3) "__setattr__" = some (some (.builtin "object.__setattr__")))
    (mk3 : PySem.W.makesIn K c3 = true)
    (kc3 : PySem.W.keepIn K (.ref c3) = true)
    (in3 : PySem.W.findIn K (.ref c3) "__init__" = some (some (.builtin "object.__init__")))
    (pg4 : PySem.W.plainGet K c4 Str.empty = true)
    (hd4 : PySem.W.hasDictIn K c4 = true)
    (po4 : PySem.W.plainOver K c4 = true)
    (sa4 : PySem.W.findIn K (.ref c4) "__setattr__" = some (some (.builtin "object.__setattr__")))
    (mk4 : PySem.W.makesIn K c4 = true)
    (kc4 : PySem.W.keepIn K (.ref c4) = true)
    (in4 : PySem.W.findIn K (.ref c4) "__init__" = some (some (.builtin "object.__init__")))
    (pg5 : PySem.W.plainGet K c5 Str.empty = true)
    (hd5 : PySem.W.hasDictIn K c5 = true)
    (po5 : PySem.W.plainOver K c5 = true)
    (sa5 : PySem.W.findIn K (.ref c5) "__setattr__" = some (some (.builtin "object.__setattr__")))
    (mk5 : PySem.W.makesIn K c5 = true)
    (kc5 : PySem.W.keepIn K (.ref c5) = true)
    (ha0 : PySem.W.findIn K (.ref c0) "__class__" = some (some (.builtin "object.__class__")))
    (hm0 : PySem.W.mroIn K c0 (.type "object") = some true)
    (oo0_0 : PySem.W.kitOne K (.ref c0) (.ref c0) = some true)
    (oo0_1 : PySem.W.kitOne K (.ref c0) (.ref c1) = some false)
    (oo0_2 : PySem.W.kitOne K (.ref c0) (.ref c2) = some false)
    (oo0_3 : PySem.W.kitOne K (.ref c0) (.ref c3) = some false)
    (oo0_4 : PySem.W.kitOne K (.ref c0) (.ref c4) = some false)
    (oo0_5 : PySem.W.kitOne K (.ref c0) (.ref c5) = some false)
    (ob0_NoneType : PySem.W.kitOne K (.ref c0) (.type "NoneType") = some false)
    (bo0_NoneType : PySem.W.kitOne K (.type "NoneType") (.ref c0) = some false)
    (ob0_bool : PySem.W.kitOne K (.ref c0) (.type "bool") = some false)
    (bo0_bool : PySem.W.kitOne K (.type "bool") (.ref c0) = some false)
    (ob0_int : PySem.W.kitOne K (.ref c0) (.type "int") = some false)
    (bo0_int : PySem.W.kitOne K (.type "int") (.ref c0) = some false)
    (ob0_str : PySem.W.kitOne K (.ref c0) (.type "str") = some false)
    (bo0_str : PySem.W.kitOne K (.type "str") (.ref c0) = some false)
    (ob0_list : PySem.W.kitOne K (.ref c0) (.type "list") = some false)
    (bo0_list : PySem.W.kitOne K (.type "list") (.ref c0) = some false)
    (ob0_tuple : PySem.W.kitOne K (.ref c0) (.type "tuple") = some false)
    (bo0_tuple : PySem.W.kitOne K (.type "tuple") (.ref c0) = some false)
    (ob0_dict : PySem.W.kitOne K (.ref c0) (.type "dict") = some false)
    (bo0_dict : PySem.W.kitOne K (.type "dict") (.ref c0) = some false)
    (ha1 : PySem.W.findIn K (.ref c1) "__class__" = some (some (.builtin "object.__class__")))
    (hm1 : PySem.W.mroIn K c1 (.type "object") = some true)
    (oo1_0 : PySem.W.kitOne K (.ref c1) (.ref c0) = some false)
    (oo1_1 : PySem.W.kitOne K (.ref c1) (.ref c1) = some true)
    (oo1_2 : PySem.W.kitOne K (.ref c1) (.ref c2) = some false)
    (oo1_3 : PySem.W.kitOne K (.ref c1) (.ref c3) = some false)
    (oo1_4 : PySem.W.kitOne K (.ref c1) (.ref c4) = some false)
    (oo1_5 : PySem.W.kitOne K (.ref c1) (.ref c5) = some false)
    (ob1_NoneType : PySem.W.kitOne K (.ref c1) (.type "NoneType") = some false)
    (bo1_NoneType : PySem.W.kitOne K (.type "NoneType") (.ref c1) = some false)
    (ob1_bool : PySem.W.kitOne K (.ref c1) (.type "bool") = some false)
    (bo1_bool : PySem.W.kitOne K (.type "bool") (.ref c1) = some false)
    (ob1_int : PySem.W.kitOne K (.ref c1) (.type "int") = some false)
    (bo1_int : PySem.W.kitOne K (.type "int") (.ref c1) = some false)
    (ob1_str : PySem.W.kitOne K (.ref c1) (.type "str") = some false)
    (bo1_str : PySem.W.kitOne K (.type "str") (.ref c1) = some false)
    (ob1_list : PySem.W.kitOne K (.ref c1) (.type "list") = some false)
    (bo1_list : PySem.W.kitOne K (.type "list") (.ref c1) = some false)
    (ob1_tuple : PySem.W.kitOne K (.ref c1) (.type "tuple") = some false)
    (bo1_tuple : PySem.W.kitOne K (.type "tuple") (.ref c1) = some false)
    (ob1_dict : PySem.W.kitOne K (.ref c1) (.type "dict") = some false)
    (bo1_dict : PySem.W.kitOne K (.type "dict") (.ref c1) = some false)
    (ha2 : PySem.W.findIn K (.ref c2) "__class__" = some (some (.builtin "object.__class__")))
    (hm2 : PySem.W.mroIn K c2 (.type "object") = some true)
    (oo2_0 : PySem.W.kitOne K (.ref c2) (.ref c0) = some false)
    (oo2_1 : PySem.W.kitOne K (.ref c2) (.ref c1) = some false)
    (oo2_2 : PySem.W.kitOne K (.ref c2) (.ref c2) = some true)
    (oo2_3 : PySem.W.kitOne K (.ref c2) (.ref c3) = some false)
    (oo2_4 : PySem.W.kitOne K (.ref c2) (.ref c4) = some false)
    (oo2_5 : PySem.W.kitOne K (.ref c2) (.ref c5) = some false)
    (ob2_NoneType : PySem.W.kitOne K (.ref c2) (.type "NoneType") = some false)
    (bo2_NoneType : PySem.W.kitOne K (.type "NoneType") (.ref c2) = some false)
    (ob2_bool : PySem.W.kitOne K (.ref c2) (.type "bool") = some false)
    (bo2_bool : PySem.W.kitOne K (.type "bool") (.ref c2) = some false)
    (ob2_int : PySem.W.kitOne K (.ref c2) (.type "int") = some false)
    (bo2_int : PySem.W.kitOne K (.type "int") (.ref c2) = some false)
    (ob2_str : PySem.W.kitOne K (.ref c2) (.type "str") = some false)
    (bo2_str : PySem.W.kitOne K (.type "str") (.ref c2) = some false)
    (ob2_list : PySem.W.kitOne K (.ref c2) (.type "list") = some false)
    (bo2_list : PySem.W.kitOne K (.type "list") (.ref c2) = some false)
    (ob2_tuple : PySem.W.kitOne K (.ref c2) (.type "tuple") = some false)
    (bo2_tuple : PySem.W.kitOne K (.type "tuple") (.ref c2) = some false)
    (ob2_dict : PySem.W.kitOne K (.ref c2) (.type "dict") = some false)
    (bo2_dict : PySem.W.kitOne K (.type "dict") (.ref c2) = some false)
    (ha3 : PySem.W.findIn K (.ref c3) "__class__" = some (some (.builtin "object.__class__")))
    (hm3 : PySem.W.mroIn K c3 (.type "object") = some true)
    (oo3_0 : PySem.W.kitOne K (.ref c3) (.ref c0) = some false)
    (oo3_1 : PySem.W.kitOne K (.ref c3) (.ref c1) = some false)
    (oo3_2 : PySem.W.kitOne K (.ref c3) (.ref c2) = some false)
    (oo3_3 : PySem.W.kitOne K (.ref c3) (.ref c3) = some true)
    (oo3_4 : PySem.W.kitOne K (.ref c3) (.ref c4) = some false)
    (oo3_5 : PySem.W.kitOne K (.ref c3) (.ref c5) = some false)
    (ob3_NoneType : PySem.W.kitOne K (.ref c3) (.type "NoneType") = some false)
    (bo3_NoneType : PySem.W.kitOne K (.type "NoneType") (.ref c3) = some false)
    (ob3_bool : PySem.W.kitOne K (.ref c3) (.type "bool") = some false)
    (bo3_bool : PySem.W.kitOne K (.type "bool") (.ref c3) = some false)
    (ob3_int : PySem.W.kitOne K (.ref c3) (.type "int") = some false)
    (bo3_int : PySem.W.kitOne K (.type "int") (.ref c3) = some false)
    (ob3_str : PySem.W.kitOne K (.ref c3) (.type "str") = some false)
    (bo3_str : PySem.W.kitOne K (.type "str") (.ref c3) = some false)
    (ob3_list : PySem.W.kitOne K (.ref c3) (.type "list") = some false)
    (bo3_list : PySem.W.kitOne K (.type "list") (.ref c3) = some false)
    (ob3_tuple : PySem.W.kitOne K (.ref c3) (.type "tuple") = some false)
    (bo3_tuple : PySem.W.kitOne K (.type "tuple") (.ref c3) = some false)
    (ob3_dict : PySem.W.kitOne K (.ref c3) (.type "dict") = some false)
    (bo3_dict : PySem.W.kitOne K (.type "dict") (.ref c3) = some false)
    (ha4 : PySem.W.findIn K (.ref c4) "__class__" = some (some (.builtin "object.__class__")))
    (hm4 : PySem.W.mroIn K c4 (.type "object") = some true)
    (oo4_0 : PySem.W.kitOne K (.ref c4) (.ref c0) = some false)
    (oo4_1 : PySem.W.kitOne K (.ref c4) (.ref c1) = some false)
    (oo4_2 : PySem.W.kitOne K (.ref c4) (.ref c2) = some false)
    (oo4_3 : PySem.W.kitOne K (.ref c4) (.ref c3) = some false)
    (oo4_4 : PySem.W.kitOne K (.ref c4) (.ref c4) = some true)
    (oo4_5 : PySem.W.kitOne K (.ref c4) (.ref c5) = some false)
    (ob4_NoneType : PySem.W.kitOne K (.ref c4) (.type "NoneType") = some false)
    (bo4_NoneType : PySem.W.kitOne K (.type "NoneType") (.ref c4) = some false)
    (ob4_bool : PySem.W.kitOne K (.ref c4) (.type "bool") = some false)
    (bo4_bool : PySem.W.kitOne K (.type "bool") (.ref c4) = some false)
    (ob4_int : PySem.W.kitOne K (.ref c4) (.type "int") = some false)
    (bo4_int : PySem.W.kitOne K (.type "int") (.ref c4) = some false)
    (ob4_str : PySem.W.kitOne K (.ref c4) (.type "str") = some false)
    (bo4_str : PySem.W.kitOne K (.type "str") (.ref c4) = some false)
    (ob4_list : PySem.W.kitOne K (.ref c4) (.type "list") = some false)
    (bo4_list : PySem.W.kitOne K (.type "list") (.ref c4) = some false)
    (ob4_tuple : PySem.W.kitOne K (.ref c4) (.type "tuple") = some false)
    (bo4_tuple : PySem.W.kitOne K (.type "tuple") (.ref c4) = some false)
    (ob4_dict : PySem.W.kitOne K (.ref c4) (.type "dict") = some false)
    (bo4_dict : PySem.W.kitOne K (.type "dict") (.ref c4) = some false)
    (ha5 : PySem.W.findIn K (.ref c5) "__class__" = some (some (.builtin "object.__class__")))
    (hm5 : PySem.W.mroIn K c5 (.type "object") = some true)
    (oo5_0 : PySem.W.kitOne K (.ref c5) (.ref c0) = some false)
    (oo5_1 : PySem.W.kitOne K (.ref c5) (.ref c1) = some false)
    (oo5_2 : PySem.W.kitOne K (.ref c5) (.ref c2) = some false)
    (oo5_3 : PySem.W.kitOne K (.ref c5) (.ref c3) = some false)
    (oo5_4 : PySem.W.kitOne K (.ref c5) (.ref c4) = some false)
    (oo5_5 : PySem.W.kitOne K (.ref c5) (.ref c5) = some true)
    (ob5_NoneType : PySem.W.kitOne K (.ref c5) (.type "NoneType") = some false)
    (bo5_NoneType : PySem.W.kitOne K (.type "NoneType") (.ref c5) = some false)
    (ob5_bool : PySem.W.kitOne K (.ref c5) (.type "bool") = some false)
    (bo5_bool : PySem.W.kitOne K (.type "bool") (.ref c5) = some false)
    (ob5_int : PySem.W.kitOne K (.ref c5) (.type "int") = some false)
    (bo5_int : PySem.W.kitOne K (.type "int") (.ref c5) = some false)
    (ob5_str : PySem.W.kitOne K (.ref c5) (.type "str") = some false)
    (bo5_str : PySem.W.kitOne K (.type "str") (.ref c5) = some false)
    (ob5_list : PySem.W.kitOne K (.ref c5) (.type "list") = some false)
    (bo5_list : PySem.W.kitOne K (.type "list") (.ref c5) = some false)
    (ob5_tuple : PySem.W.kitOne K (.ref c5) (.type "tuple") = some false)
    (bo5_tuple : PySem.W.kitOne K (.type "tuple") (.ref c5) = some false)
    (ob5_dict : PySem.W.kitOne K (.ref c5) (.type "dict") = some false)
    (bo5_dict : PySem.W.kitOne K (.type "dict") (.ref c5) = some false)
    (ac10 : PySem.W.nsIn K mainGlobals "InvalidRow" = some (some (.ref c10)))
    (ac11 : PySem.W.nsIn K mainGlobals "InvalidMove" = some (some (.ref c11)))
    (ac12 : PySem.W.nsIn K mainGlobals "InvalidDeed" = some (some (.ref c12)))
    (ac13 : PySem.W.nsIn K mainGlobals "InvalidDay" = some (some (.ref c13)))
    (ac14 : PySem.W.nsIn K mainGlobals "InvalidWork" = some (some (.ref c14)))
    (ac15 : PySem.W.nsIn K mainGlobals "InvalidOrder" = some (some (.ref c15)))
    (ac16 : PySem.W.nsIn K mainGlobals "InvalidLines" = some (some (.ref c16)))
    (ac17 : PySem.W.nsIn K mainGlobals "NotFewer" = some (some (.ref c17)))
    (ac18 : PySem.W.nsIn K mainGlobals "NotEvener" = some (some (.ref c18)))
    (ac19 : PySem.W.nsIn K mainGlobals "NothingToUndo" = some (some (.ref c19)))
    (ac20 : PySem.W.nsIn K mainGlobals "InvalidText" = some (some (.ref c20)))
    (ac21 : PySem.W.nsIn K mainGlobals "InvalidCommand" = some (some (.ref c21)))
    (ac22 : PySem.W.nsIn K mainGlobals "NotReady" = some (some (.ref c22)))
    (ac23 : PySem.W.nsIn K mainGlobals "InvalidPlan" = some (some (.ref c23)))
    (ac24 : PySem.W.nsIn K mainGlobals "DayError" = some (some (.ref c24)))
    (bs14 : PySem.W.subIn K (.ref c14) (.type "BaseException") = some true)
    (ty14 : PySem.W.typeIn K (.ref c14) = some (.type "type"))
    (xi14 : PySem.W.excIn K c14 [.type "ValueError", .type "Exception", .type "BaseException", .type "object"] "ValueError.__new__" = true)
    (xk14 : PySem.W.keepIn K (.ref c14) = true)
    (ic14 : PySem.W.isClsIn K c14 = true)
    (sb14_14 : PySem.W.subIn K (.ref c14) (.ref c14) = some true)
    (hg14 : PySem.W.findIn K (.ref c14) "__getattribute__" = some (some (.builtin "BaseException.__getattribute__")))
    (hk14 : PySem.W.findIn K (.ref c14) "__getattr__" = some none)
    (hdx14 : PySem.W.hasDictIn K c14 = true)
    (hax14 : PySem.W.findIn K (.ref c14) "__class__" = some (some (.builtin "object.__class__")))
    (hmx14 : PySem.W.mroIn K c14 (.type "object") = some true)
    (ko14_DayError : PySem.W.kitOne K (.ref c14) (.ref c24) = some true)
    (ko14_InvalidCommand : PySem.W.kitOne K (.ref c14) (.ref c21) = some false)
    (ko14_InvalidDay : PySem.W.kitOne K (.ref c14) (.ref c13) = some false)
    (ko14_InvalidDeed : PySem.W.kitOne K (.ref c14) (.ref c12) = some false)
    (ko14_InvalidLines : PySem.W.kitOne K (.ref c14) (.ref c16) = some false)
    (ko14_InvalidMove : PySem.W.kitOne K (.ref c14) (.ref c11) = some false)
    (ko14_InvalidOrder : PySem.W.kitOne K (.ref c14) (.ref c15) = some false)
    (ko14_InvalidPlan : PySem.W.kitOne K (.ref c14) (.ref c23) = some false)
    (ko14_InvalidRow : PySem.W.kitOne K (.ref c14) (.ref c10) = some false)
    (ko14_InvalidText : PySem.W.kitOne K (.ref c14) (.ref c20) = some false)
    (ko14_NotEvener : PySem.W.kitOne K (.ref c14) (.ref c18) = some false)
    (ko14_NotFewer : PySem.W.kitOne K (.ref c14) (.ref c17) = some false)
    (ko14_NotReady : PySem.W.kitOne K (.ref c14) (.ref c22) = some false)
    (ko14_NothingToUndo : PySem.W.kitOne K (.ref c14) (.ref c19) = some false)
    (ko14_ValueError : PySem.W.kitOne K (.ref c14) (.type "ValueError") = some true)
    (hn : PySem.W.specialIn K (.builtin "object.__class__") "__get__" = some (some (.builtin "getset_descriptor.__get__")))
    (ht : PySem.W.takesIn K (.builtin "object.__class__") = some true)
    (na0_falling : PySem.W.findIn K (.ref c0) "falling" = some none)
    (na5_rule : PySem.W.findIn K (.ref c5) "rule" = some none)
    (na5_states : PySem.W.findIn K (.ref c5) "states" = some none)
    (b_ValueError : PySem.W.nsIn K mainGlobals "ValueError" = some none)
    (b_bool : PySem.W.nsIn K mainGlobals "bool" = some none)
    (b_int : PySem.W.nsIn K mainGlobals "int" = some none)
    (b_isinstance : PySem.W.nsIn K mainGlobals "isinstance" = some none)
    (b_len : PySem.W.nsIn K mainGlobals "len" = some none)
    (b_list : PySem.W.nsIn K mainGlobals "list" = some none)
    (b_max : PySem.W.nsIn K mainGlobals "max" = some none)
    (b_min : PySem.W.nsIn K mainGlobals "min" = some none)
    (b_range : PySem.W.nsIn K mainGlobals "range" = some none)
    (b_sorted : PySem.W.nsIn K mainGlobals "sorted" = some none)
    (b_tuple : PySem.W.nsIn K mainGlobals "tuple" = some none)
    (a19 : PySem.W.findIn K (.ref c5) "__init__" = some (some (.ref f19)))
    (i19 : PySem.W.isFn K (.ref f19) = true)
    (l19 : K.lookup f19 = some ⟨oc19, od19, .func (PySem.W.fnOf "__init__" "LiveDay.__init__" (defArgs s_liveday_init) (defBody s_liveday_init) (defScope s_liveday_init) .none kV19 dc19 pm19 an19 cd19 ct19), sl19⟩)
    (cd19_ : PySem.W.codeIn K cd19 "LiveDay.__init__" = true)
    (k19 : PySem.W.keepIn K (.ref f19) = true)
    (a34 : PySem.W.nsIn K mainGlobals "_law_came" = some (some (.ref f34)))
    (l34 : K.lookup f34 = some ⟨oc34, od34, .func (PySem.W.fnOf "_law_came" "_law_came" (defArgs s_law_came) (defBody s_law_came) (defScope s_law_came) .none kV34 dc34 pm34 an34 cd34 ct34), sl34⟩)
    (cd34_ : PySem.W.codeIn K cd34 "_law_came" = true)
    (k34 : PySem.W.keepIn K (.ref f34) = true)
    (a30 : PySem.W.nsIn K mainGlobals "_law_pick" = some (some (.ref f30)))
    (l30 : K.lookup f30 = some ⟨oc30, od30, .func (PySem.W.fnOf "_law_pick" "_law_pick" (defArgs s_law_pick) (defBody s_law_pick) (defScope s_law_pick) .none kV30 dc30 pm30 an30 cd30 ct30), sl30⟩)
    (cd30_ : PySem.W.codeIn K cd30 "_law_pick" = true)
    (k30 : PySem.W.keepIn K (.ref f30) = true)
    (a39 : PySem.W.nsIn K mainGlobals "_law_rule" = some (some (.ref f39)))
    (l39 : K.lookup f39 = some ⟨oc39, od39, .func (PySem.W.fnOf "_law_rule" "_law_rule" (defArgs s_law_rule) (defBody s_law_rule) (defScope s_law_rule) .none kV39 dc39 pm39 an39 cd39 ct39), sl39⟩)
    (cd39_ : PySem.W.codeIn K cd39 "_law_rule" = true)
    (k39 : PySem.W.keepIn K (.ref f39) = true)
    (at26 : PySem.W.findIn K (.ref c5) "plan" = some (some (.ref p26)))
    (gt26 : PySem.W.specialIn K (.ref p26) "__get__" = some (some (.builtin "property.__get__")))
    (tk26 : PySem.W.takesIn K (.ref p26) = some true)
    (rc26 : PySem.W.recIn K p26 "property" = some (.ref f26 :: rest26))
    (l26 : K.lookup f26 = some ⟨oc26, od26, .func (PySem.W.fnOf "plan" "LiveDay.plan" (defArgs s_liveday_plan) (defBody s_liveday_plan) (defScope s_liveday_plan) .none kV26 dc26 pm26 an26 cd26 ct26), sl26⟩)
    (cd26_ : PySem.W.codeIn K cd26 "LiveDay.plan" = true)
    (k26 : PySem.W.keepIn K (.ref f26) = true)
    (a31 : PySem.W.nsIn K mainGlobals "_law_is_int" = some (some (.ref f31)))
    (l31 : K.lookup f31 = some ⟨oc31, od31, .func (PySem.W.fnOf "_law_is_int" "_law_is_int" (defArgs s_law_is_int) (defBody s_law_is_int) (defScope s_law_is_int) .none kV31 dc31 pm31 an31 cd31 ct31), sl31⟩)
    (cd31_ : PySem.W.codeIn K cd31 "_law_is_int" = true)
    (k31 : PySem.W.keepIn K (.ref f31) = true)
    (a32 : PySem.W.nsIn K mainGlobals "_law_same_ticks" = some (some (.ref f32)))
    (l32 : K.lookup f32 = some ⟨oc32, od32, .func (PySem.W.fnOf "_law_same_ticks" "_law_same_ticks" (defArgs s_law_same_ticks) (defBody s_law_same_ticks) (defScope s_law_same_ticks) .none kV32 dc32 pm32 an32 cd32 ct32), sl32⟩)
    (cd32_ : PySem.W.codeIn K cd32 "_law_same_ticks" = true)
    (k32 : PySem.W.keepIn K (.ref f32) = true)
    (at27 : PySem.W.findIn K (.ref c5) "comings" = some (some (.ref p27)))
    (gt27 : PySem.W.specialIn K (.ref p27) "__get__" = some (some (.builtin "property.__get__")))
    (tk27 : PySem.W.takesIn K (.ref p27) = some true)
    (rc27 : PySem.W.recIn K p27 "property" = some (.ref f27 :: rest27))
    (l27 : K.lookup f27 = some ⟨oc27, od27, .func (PySem.W.fnOf "comings" "LiveDay.comings" (defArgs s_liveday_comings) (defBody s_liveday_comings) (defScope s_liveday_comings) .none kV27 dc27 pm27 an27 cd27 ct27), sl27⟩)
    (cd27_ : PySem.W.codeIn K cd27 "LiveDay.comings" = true)
    (k27 : PySem.W.keepIn K (.ref f27) = true)
    (a36 : PySem.W.nsIn K mainGlobals "_law_is_comings" = some (some (.ref f36)))
    (l36 : K.lookup f36 = some ⟨oc36, od36, .func (PySem.W.fnOf "_law_is_comings" "_law_is_comings" (defArgs s_law_is_comings) (defBody s_law_is_comings) (defScope s_law_is_comings) .none kV36 dc36 pm36 an36 cd36 ct36), sl36⟩)
    (cd36_ : PySem.W.codeIn K cd36 "_law_is_comings" = true)
    (k36 : PySem.W.keepIn K (.ref f36) = true)
    (a1 : PySem.W.nsIn K mainGlobals "is_integer" = some (some (.ref f1)))
    (l1 : K.lookup f1 = some ⟨oc1, od1, .func (PySem.W.fnOf "is_integer" "is_integer" (defArgs s_is_integer) (defBody s_is_integer) (defScope s_is_integer) .none kV1 dc1 pm1 an1 cd1 ct1), sl1⟩)
    (cd1_ : PySem.W.codeIn K cd1 "is_integer" = true)
    (k1 : PySem.W.keepIn K (.ref f1) = true)
    (a2 : PySem.W.findIn K (.ref c0) "__init__" = some (some (.ref f2)))
    (i2 : PySem.W.isFn K (.ref f2) = true)
    (l2 : K.lookup f2 = some ⟨oc2, od2, .func (PySem.W.fnOf "__init__" "Row.__init__" (defArgs s_row_init) (defBody s_row_init) (defScope s_row_init) .none kV2 dc2 pm2 an2 cd2 ct2), sl2⟩)
    (cd2_ : PySem.W.codeIn K cd2 "Row.__init__" = true)
    (k2 : PySem.W.keepIn K (.ref f2) = true)
    (at25 : PySem.W.findIn K (.ref c5) "row" = some (some (.ref p25)))
    (gt25 : PySem.W.specialIn K (.ref p25) "__get__" = some (some (.builtin "property.__get__")))
    (tk25 : PySem.W.takesIn K (.ref p25) = some true)
    (rc25 : PySem.W.recIn K p25 "property" = some (.ref f25 :: rest25))
    (l25 : K.lookup f25 = some ⟨oc25, od25, .func (PySem.W.fnOf "row" "LiveDay.row" (defArgs s_liveday_row) (defBody s_liveday_row) (defScope s_liveday_row) .none kV25 dc25 pm25 an25 cd25 ct25), sl25⟩)
    (cd25_ : PySem.W.codeIn K cd25 "LiveDay.row" = true)
    (k25 : PySem.W.keepIn K (.ref f25) = true)
    (at3 : PySem.W.findIn K (.ref c0) "parts" = some (some (.ref p3)))
    (gt3 : PySem.W.specialIn K (.ref p3) "__get__" = some (some (.builtin "property.__get__")))
    (tk3 : PySem.W.takesIn K (.ref p3) = some true)
    (rc3 : PySem.W.recIn K p3 "property" = some (.ref f3 :: rest3))
    (l3 : K.lookup f3 = some ⟨oc3, od3, .func (PySem.W.fnOf "parts" "Row.parts" (defArgs s_row_parts) (defBody s_row_parts) (defScope s_row_parts) .none kV3 dc3 pm3 an3 cd3 ct3), sl3⟩)
    (cd3_ : PySem.W.codeIn K cd3 "Row.parts" = true)
    (k3 : PySem.W.keepIn K (.ref f3) = true)
    (a23 : PySem.W.findIn K (.ref c5) "__len__" = some (some (.ref f23)))
    (i23 : PySem.W.isFn K (.ref f23) = true)
    (l23 : K.lookup f23 = some ⟨oc23, od23, .func (PySem.W.fnOf "__len__" "LiveDay.__len__" (defArgs s_liveday_len) (defBody s_liveday_len) (defScope s_liveday_len) .none kV23 dc23 pm23 an23 cd23 ct23), sl23⟩)
    (cd23_ : PySem.W.codeIn K cd23 "LiveDay.__len__" = true)
    (k23 : PySem.W.keepIn K (.ref f23) = true)
    (at24 : PySem.W.findIn K (.ref c5) "minute" = some (some (.ref p24)))
    (gt24 : PySem.W.specialIn K (.ref p24) "__get__" = some (some (.builtin "property.__get__")))
    (tk24 : PySem.W.takesIn K (.ref p24) = some true)
    (rc24 : PySem.W.recIn K p24 "property" = some (.ref f24 :: rest24))
    (l24 : K.lookup f24 = some ⟨oc24, od24, .func (PySem.W.fnOf "minute" "LiveDay.minute" (defArgs s_liveday_minute) (defBody s_liveday_minute) (defScope s_liveday_minute) .none kV24 dc24 pm24 an24 cd24 ct24), sl24⟩)
    (cd24_ : PySem.W.codeIn K cd24 "LiveDay.minute" = true)
    (k24 : PySem.W.keepIn K (.ref f24) = true)
    (at28 : PySem.W.findIn K (.ref c5) "waiting" = some (some (.ref p28)))
    (gt28 : PySem.W.specialIn K (.ref p28) "__get__" = some (some (.builtin "property.__get__")))
    (tk28 : PySem.W.takesIn K (.ref p28) = some true)
    (rc28 : PySem.W.recIn K p28 "property" = some (.ref f28 :: rest28))
    (l28 : K.lookup f28 = some ⟨oc28, od28, .func (PySem.W.fnOf "waiting" "LiveDay.waiting" (defArgs s_liveday_waiting) (defBody s_liveday_waiting) (defScope s_liveday_waiting) .none kV28 dc28 pm28 an28 cd28 ct28), sl28⟩)
    (cd28_ : PySem.W.codeIn K cd28 "LiveDay.waiting" = true)
    (k28 : PySem.W.keepIn K (.ref f28) = true)
    (a37 : PySem.W.nsIn K mainGlobals "_law_tells" = some (some (.ref f37)))
    (l37 : K.lookup f37 = some ⟨oc37, od37, .func (PySem.W.fnOf "_law_tells" "_law_tells" (defArgs s_law_tells) (defBody s_law_tells) (defScope s_law_tells) .none kV37 dc37 pm37 an37 cd37 ct37), sl37⟩)
    (cd37_ : PySem.W.codeIn K cd37 "_law_tells" = true)
    (k37 : PySem.W.keepIn K (.ref f37) = true)
    (a38 : PySem.W.nsIn K mainGlobals "_law_shows" = some (some (.ref f38)))
    (l38 : K.lookup f38 = some ⟨oc38, od38, .func (PySem.W.fnOf "_law_shows" "_law_shows" (defArgs s_law_shows) (defBody s_law_shows) (defScope s_law_shows) .none kV38 dc38 pm38 an38 cd38 ct38), sl38⟩)
    (cd38_ : PySem.W.codeIn K cd38 "_law_shows" = true)
    (k38 : PySem.W.keepIn K (.ref f38) = true)
    (a33 : PySem.W.nsIn K mainGlobals "_law_next" = some (some (.ref f33)))
    (l33 : K.lookup f33 = some ⟨oc33, od33, .func (PySem.W.fnOf "_law_next" "_law_next" (defArgs s_law_next) (defBody s_law_next) (defScope s_law_next) .none kV33 dc33 pm33 an33 cd33 ct33), sl33⟩)
    (cd33_ : PySem.W.codeIn K cd33 "_law_next" = true)
    (k33 : PySem.W.keepIn K (.ref f33) = true)
    (a35 : PySem.W.nsIn K mainGlobals "_law_passed" = some (some (.ref f35)))
    (l35 : K.lookup f35 = some ⟨oc35, od35, .func (PySem.W.fnOf "_law_passed" "_law_passed" (defArgs s_law_passed) (defBody s_law_passed) (defScope s_law_passed) .none kV35 dc35 pm35 an35 cd35 ct35), sl35⟩)
    (cd35_ : PySem.W.codeIn K cd35 "_law_passed" = true)
    (k35 : PySem.W.keepIn K (.ref f35) = true)
    (a20 : PySem.W.findIn K (.ref c5) "come" = some (some (.ref f20)))
    (i20 : PySem.W.isFn K (.ref f20) = true)
    (l20 : K.lookup f20 = some ⟨oc20, od20, .func (PySem.W.fnOf "come" "LiveDay.come" (defArgs s_liveday_come) (defBody s_liveday_come) (defScope s_liveday_come) .none kV20 dc20 pm20 an20 cd20 ct20), sl20⟩)
    (cd20_ : PySem.W.codeIn K cd20 "LiveDay.come" = true)
    (k20 : PySem.W.keepIn K (.ref f20) = true)
    (a22 : PySem.W.findIn K (.ref c5) "back" = some (some (.ref f22)))
    (i22 : PySem.W.isFn K (.ref f22) = true)
    (l22 : K.lookup f22 = some ⟨oc22, od22, .func (PySem.W.fnOf "back" "LiveDay.back" (defArgs s_liveday_back) (defBody s_liveday_back) (defScope s_liveday_back) .none (.ref kd22) dc22 pm22 an22 cd22 ct22), sl22⟩)
    (kw22 : PySem.W.nsIn K kd22 "count" = some (some (.int 1 tk22)))
    (cd22_ : PySem.W.codeIn K cd22 "LiveDay.back" = true)
    (k22 : PySem.W.keepIn K (.ref f22) = true)
    (a40 : PySem.W.nsIn K mainGlobals "_law_refused" = some (some (.ref f40)))
    (l40 : K.lookup f40 = some ⟨oc40, od40, .func (PySem.W.fnOf "_law_refused" "_law_refused" (defArgs s_law_refused) (defBody s_law_refused) (defScope s_law_refused) .none kV40 dc40 pm40 an40 cd40 ct40), sl40⟩)
    (cd40_ : PySem.W.codeIn K cd40 "_law_refused" = true)
    (k40 : PySem.W.keepIn K (.ref f40) = true)
    (a18 : PySem.W.nsIn K mainGlobals "next_person" = some (some (.ref f18)))
    (l18 : K.lookup f18 = some ⟨oc18, od18, .func (PySem.W.fnOf "next_person" "next_person" (defArgs s_next_person) (defBody s_next_person) (defScope s_next_person) .none kV18 dc18 pm18 an18 cd18 ct18), sl18⟩)
    (cd18_ : PySem.W.codeIn K cd18 "next_person" = true)
    (k18 : PySem.W.keepIn K (.ref f18) = true)
    (a21 : PySem.W.findIn K (.ref c5) "over" = some (some (.ref f21)))
    (i21 : PySem.W.isFn K (.ref f21) = true)
    (l21 : K.lookup f21 = some ⟨oc21, od21, .func (PySem.W.fnOf "over" "LiveDay.over" (defArgs s_liveday_over) (defBody s_liveday_over) (defScope s_liveday_over) .none kV21 dc21 pm21 an21 cd21 ct21), sl21⟩)
    (cd21_ : PySem.W.codeIn K cd21 "LiveDay.over" = true)
    (k21 : PySem.W.keepIn K (.ref f21) = true)
    (a41 : PySem.W.nsIn K mainGlobals "_law_right" = some (some (.ref f41)))
    (l41 : K.lookup f41 = some ⟨oc41, od41, .func (PySem.W.fnOf "_law_right" "_law_right" (defArgs s_law_right) (defBody s_law_right) (defScope s_law_right) .none kV41 dc41 pm41 an41 cd41 ct41), sl41⟩)
    (cd41_ : PySem.W.codeIn K cd41 "_law_right" = true)
    (k41 : PySem.W.keepIn K (.ref f41) = true)
    (a29 : PySem.W.nsIn K mainGlobals "_law_open" = some (some (.ref f29)))
    (l29 : K.lookup f29 = some ⟨oc29, od29, .func (PySem.W.fnOf "_law_open" "_law_open" (defArgs s_law_open) (defBody s_law_open) (defScope s_law_open) .none kV29 dc29 pm29 an29 cd29 ct29), sl29⟩)
    (cd29_ : PySem.W.codeIn K cd29 "_law_open" = true)
    (k29 : PySem.W.keepIn K (.ref f29) = true)
    (a42 : PySem.W.nsIn K mainGlobals "law" = some (some (.ref f42)))
    (l42 : K.lookup f42 = some ⟨oc42, od42, .func (PySem.W.fnOf "law" "law" (defArgs s_law) (defBody s_law) (defScope s_law) .none kV42 dc42 pm42 an42 cd42 ct42), sl42⟩)
    (cd42_ : PySem.W.codeIn K cd42 "law" = true)
    (k42 : PySem.W.keepIn K (.ref f42) = true)
    : ∃ fd : FuncData, (∀ (s : Shared) (v : Value), BindsTo s fd ⟨[v], []⟩ [("script", v)]) ∧ ∀ base : Heap, K.In base → base.Ns mainGlobals mg → FnOk l.prog w K mg base CX0 14 fl fd ["script"] (spLaw K) := by
  have e := (PySem.W.mg_of X G a42).symm.trans hfa
  injection e with e
  injection e with e
  subst e
  have F19 := fun_mk (st := s_liveday_init) l19 cd19_ k19
  have b19 := F19.binds (ps := ["self", "rule"]) fun _ _ _ _ _ _ us hl => match us, hl with | [_, _], _ => rfl
  have F34 := fun_mk (st := s_law_came) l34 cd34_ k34
  have b34 := F34.binds (ps := ["state", "work"]) fun _ _ _ _ _ _ us hl => match us, hl with | [_, _], _ => rfl
  have F30 := fun_mk (st := s_law_pick) l30 cd30_ k30
  have b30 := F30.binds (ps := ["pool", "many"]) fun _ _ _ _ _ _ us hl => match us, hl with | [_, _], _ => rfl
  have F39 := fun_mk (st := s_law_rule) l39 cd39_ k39
  have b39 := F39.binds (ps := ["name"]) fun _ _ _ _ _ _ us hl => match us, hl with | [_], _ => rfl
  have F26 := fun_mk (st := s_liveday_plan) l26 cd26_ k26
  have b26 := F26.binds (ps := ["self"]) fun _ _ _ _ _ _ us hl => match us, hl with | [_], _ => rfl
  have F31 := fun_mk (st := s_law_is_int) l31 cd31_ k31
  have b31 := F31.binds (ps := ["found"]) fun _ _ _ _ _ _ us hl => match us, hl with | [_], _ => rfl
  have F32 := fun_mk (st := s_law_same_ticks) l32 cd32_ k32
  have b32 := F32.binds (ps := ["found", "due"]) fun _ _ _ _ _ _ us hl => match us, hl with | [_, _], _ => rfl
  have F27 := fun_mk (st := s_liveday_comings) l27 cd27_ k27
  have b27 := F27.binds (ps := ["self"]) fun _ _ _ _ _ _ us hl => match us, hl with | [_], _ => rfl
  have F36 := fun_mk (st := s_law_is_comings) l36 cd36_ k36
  have b36 := F36.binds (ps := ["found", "due"]) fun _ _ _ _ _ _ us hl => match us, hl with | [_, _], _ => rfl
  have F1 := fun_mk (st := s_is_integer) l1 cd1_ k1
  have b1 := F1.binds (ps := ["value"]) fun _ _ _ _ _ _ us hl => match us, hl with | [_], _ => rfl
  have F2 := fun_mk (st := s_row_init) l2 cd2_ k2
  have b2 := F2.binds (ps := ["self", "items"]) fun _ _ _ _ _ _ us hl => match us, hl with | [_, _], _ => rfl
  have F25 := fun_mk (st := s_liveday_row) l25 cd25_ k25
  have b25 := F25.binds (ps := ["self"]) fun _ _ _ _ _ _ us hl => match us, hl with | [_], _ => rfl
  have F3 := fun_mk (st := s_row_parts) l3 cd3_ k3
  have b3 := F3.binds (ps := ["self"]) fun _ _ _ _ _ _ us hl => match us, hl with | [_], _ => rfl
  have F23 := fun_mk (st := s_liveday_len) l23 cd23_ k23
  have b23 := F23.binds (ps := ["self"]) fun _ _ _ _ _ _ us hl => match us, hl with | [_], _ => rfl
  have F24 := fun_mk (st := s_liveday_minute) l24 cd24_ k24
  have b24 := F24.binds (ps := ["self"]) fun _ _ _ _ _ _ us hl => match us, hl with | [_], _ => rfl
  have F28 := fun_mk (st := s_liveday_waiting) l28 cd28_ k28
  have b28 := F28.binds (ps := ["self"]) fun _ _ _ _ _ _ us hl => match us, hl with | [_], _ => rfl
  have F37 := fun_mk (st := s_law_tells) l37 cd37_ k37
  have b37 := F37.binds (ps := ["live", "state", "deeds", "what"]) fun _ _ _ _ _ _ us hl => match us, hl with | [_, _, _, _], _ => rfl
  have F38 := fun_mk (st := s_law_shows) l38 cd38_ k38
  have b38 := F38.binds (ps := ["live", "state", "deeds", "order"]) fun _ _ _ _ _ _ us hl => match us, hl with | [_, _, _, _], _ => rfl
  have F33 := fun_mk (st := s_law_next) l33 cd33_ k33
  have b33 := F33.binds (ps := ["name", "works", "last"]) fun _ _ _ _ _ _ us hl => match us, hl with | [_, _, _], _ => rfl
  have F35 := fun_mk (st := s_law_passed) l35 cd35_ k35
  have b35 := F35.binds (ps := ["name", "state"]) fun _ _ _ _ _ _ us hl => match us, hl with | [_, _], _ => rfl
  have F20 := fun_mk (st := s_liveday_come) l20 cd20_ k20
  have b20 := F20.binds (ps := ["self", "work"]) fun _ _ _ _ _ _ us hl => match us, hl with | [_, _], _ => rfl
  have F22 := fun_mk (st := s_liveday_back) l22 cd22_ k22
  have b22 : ∃ dU, Vals [V.int 1] dU ∧ Binds K (PySem.W.fnOf "back" "LiveDay.back" (defArgs s_liveday_back) (defBody s_liveday_back) (defScope s_liveday_back) .none (.ref kd22) dc22 pm22 an22 cd22 ct22) ["self", "count"] dU := FunD.binds0 (K := K) (x := "back") (qual := "LiveDay.back") (params := defArgs s_liveday_back) (body := defBody s_liveday_back) (scope := defScope s_liveday_back) (kws := [("count", V.int 1)]) (f := f22) ⟨⟨oc22, od22, .none, .ref kd22, dc22, pm22, an22, cd22, ct22, sl22, rfl, l22, cd22_, .inl ⟨rfl, rfl⟩, .inr ⟨kd22, rfl, fun q hq => by rw [List.mem_singleton.mp hq]; exact ⟨_, kw22, ⟨_, rfl⟩⟩⟩⟩, k22⟩ 1 (by simp) rfl (fun D doc pm an cdv ct us ks h1 h2 => match us, ks, h1, h2 with | [_], [_], _, _ => ⟨_, _, _, _, _, _, rfl, rfl, rfl⟩)
  have kb22 : KBn K (PySem.W.fnOf "back" "LiveDay.back" (defArgs s_liveday_back) (defBody s_liveday_back) (defScope s_liveday_back) .none (.ref kd22) dc22 pm22 an22 cd22 ct22) ["self", "count"] 1 ["count"] (fun us ws => us ++ ws) (fun vs zs => vs ++ zs) := kbn1 fun u w => rfl
  have F40 := fun_mk (st := s_law_refused) l40 cd40_ k40
  have b40 := F40.binds (ps := ["live", "work"]) fun _ _ _ _ _ _ us hl => match us, hl with | [_, _], _ => rfl
  have F18 := fun_mk (st := s_next_person) l18 cd18_ k18
  have b18 := F18.binds (ps := ["rule", "left", "last"]) fun _ _ _ _ _ _ us hl => match us, hl with | [_, _, _], _ => rfl
  have F21 := fun_mk (st := s_liveday_over) l21 cd21_ k21
  have b21 := F21.binds (ps := ["self"]) fun _ _ _ _ _ _ us hl => match us, hl with | [_], _ => rfl
  have F41 := fun_mk (st := s_law_right) l41 cd41_ k41
  have b41 := F41.binds (ps := ["pool"]) fun _ _ _ _ _ _ us hl => match us, hl with | [_], _ => rfl
  have F29 := fun_mk (st := s_law_open) l29 cd29_ k29
  have b29 := F29.binds (ps := ["script", "spot"]) fun _ _ _ _ _ _ us hl => match us, hl with | [_, _], _ => rfl
  have F42 := fun_mk (st := s_law) l42 cd42_ k42
  have b42 := F42.binds (ps := ["script"]) fun _ _ _ _ _ _ us hl => match us, hl with | [_], _ => rfl
  have T : Fx K mg (fun | 0 => c0 | 1 => c1 | 2 => c2 | 3 => c3 | 4 => c4 | 5 => c5 | 10 => c10 | 11 => c11 | 12 => c12 | 13 => c13 | 14 => c14 | 15 => c15 | 16 => c16 | 17 => c17 | 18 => c18 | 19 => c19 | 20 => c20 | 21 => c21 | 22 => c22 | 23 => c23 | 24 => c24 | _ => 0) (fun | 19 => f19 | 34 => f34 | 30 => f30 | 39 => f39 | 26 => f26 | 31 => f31 | 32 => f32 | 27 => f27 | 36 => f36 | 1 => f1 | 2 => f2 | 25 => f25 | 3 => f3 | 23 => f23 | 24 => f24 | 28 => f28 | 37 => f37 | 38 => f38 | 33 => f33 | 35 => f35 | 20 => f20 | 22 => f22 | 40 => f40 | 18 => f18 | 21 => f21 | 41 => f41 | 29 => f29 | 42 => f42 | _ => 0) (fun | 19 => PySem.W.fnOf "__init__" "LiveDay.__init__" (defArgs s_liveday_init) (defBody s_liveday_init) (defScope s_liveday_init) .none kV19 dc19 pm19 an19 cd19 ct19 | 34 => PySem.W.fnOf "_law_came" "_law_came" (defArgs s_law_came) (defBody s_law_came) (defScope s_law_came) .none kV34 dc34 pm34 an34 cd34 ct34 | 30 => PySem.W.fnOf "_law_pick" "_law_pick" (defArgs s_law_pick) (defBody s_law_pick) (defScope s_law_pick) .none kV30 dc30 pm30 an30 cd30 ct30 | 39 => PySem.W.fnOf "_law_rule" "_law_rule" (defArgs s_law_rule) (defBody s_law_rule) (defScope s_law_rule) .none kV39 dc39 pm39 an39 cd39 ct39 | 26 => PySem.W.fnOf "plan" "LiveDay.plan" (defArgs s_liveday_plan) (defBody s_liveday_plan) (defScope s_liveday_plan) .none kV26 dc26 pm26 an26 cd26 ct26 | 31 => PySem.W.fnOf "_law_is_int" "_law_is_int" (defArgs s_law_is_int) (defBody s_law_is_int) (defScope s_law_is_int) .none kV31 dc31 pm31 an31 cd31 ct31 | 32 => PySem.W.fnOf "_law_same_ticks" "_law_same_ticks" (defArgs s_law_same_ticks) (defBody s_law_same_ticks) (defScope s_law_same_ticks) .none kV32 dc32 pm32 an32 cd32 ct32 | 27 => PySem.W.fnOf "comings" "LiveDay.comings" (defArgs s_liveday_comings) (defBody s_liveday_comings) (defScope s_liveday_comings) .none kV27 dc27 pm27 an27 cd27 ct27 | 36 => PySem.W.fnOf "_law_is_comings" "_law_is_comings" (defArgs s_law_is_comings) (defBody s_law_is_comings) (defScope s_law_is_comings) .none kV36 dc36 pm36 an36 cd36 ct36 | 1 => PySem.W.fnOf "is_integer" "is_integer" (defArgs s_is_integer) (defBody s_is_integer) (defScope s_is_integer) .none kV1 dc1 pm1 an1 cd1 ct1 | 2 => PySem.W.fnOf "__init__" "Row.__init__" (defArgs s_row_init) (defBody s_row_init) (defScope s_row_init) .none kV2 dc2 pm2 an2 cd2 ct2 | 25 => PySem.W.fnOf "row" "LiveDay.row" (defArgs s_liveday_row) (defBody s_liveday_row) (defScope s_liveday_row) .none kV25 dc25 pm25 an25 cd25 ct25 | 3 => PySem.W.fnOf "parts" "Row.parts" (defArgs s_row_parts) (defBody s_row_parts) (defScope s_row_parts) .none kV3 dc3 pm3 an3 cd3 ct3 | 23 => PySem.W.fnOf "__len__" "LiveDay.__len__" (defArgs s_liveday_len) (defBody s_liveday_len) (defScope s_liveday_len) .none kV23 dc23 pm23 an23 cd23 ct23 | 24 => PySem.W.fnOf "minute" "LiveDay.minute" (defArgs s_liveday_minute) (defBody s_liveday_minute) (defScope s_liveday_minute) .none kV24 dc24 pm24 an24 cd24 ct24 | 28 => PySem.W.fnOf "waiting" "LiveDay.waiting" (defArgs s_liveday_waiting) (defBody s_liveday_waiting) (defScope s_liveday_waiting) .none kV28 dc28 pm28 an28 cd28 ct28 | 37 => PySem.W.fnOf "_law_tells" "_law_tells" (defArgs s_law_tells) (defBody s_law_tells) (defScope s_law_tells) .none kV37 dc37 pm37 an37 cd37 ct37 | 38 => PySem.W.fnOf "_law_shows" "_law_shows" (defArgs s_law_shows) (defBody s_law_shows) (defScope s_law_shows) .none kV38 dc38 pm38 an38 cd38 ct38 | 33 => PySem.W.fnOf "_law_next" "_law_next" (defArgs s_law_next) (defBody s_law_next) (defScope s_law_next) .none kV33 dc33 pm33 an33 cd33 ct33 | 35 => PySem.W.fnOf "_law_passed" "_law_passed" (defArgs s_law_passed) (defBody s_law_passed) (defScope s_law_passed) .none kV35 dc35 pm35 an35 cd35 ct35 | 20 => PySem.W.fnOf "come" "LiveDay.come" (defArgs s_liveday_come) (defBody s_liveday_come) (defScope s_liveday_come) .none kV20 dc20 pm20 an20 cd20 ct20 | 22 => PySem.W.fnOf "back" "LiveDay.back" (defArgs s_liveday_back) (defBody s_liveday_back) (defScope s_liveday_back) .none (.ref kd22) dc22 pm22 an22 cd22 ct22 | 40 => PySem.W.fnOf "_law_refused" "_law_refused" (defArgs s_law_refused) (defBody s_law_refused) (defScope s_law_refused) .none kV40 dc40 pm40 an40 cd40 ct40 | 18 => PySem.W.fnOf "next_person" "next_person" (defArgs s_next_person) (defBody s_next_person) (defScope s_next_person) .none kV18 dc18 pm18 an18 cd18 ct18 | 21 => PySem.W.fnOf "over" "LiveDay.over" (defArgs s_liveday_over) (defBody s_liveday_over) (defScope s_liveday_over) .none kV21 dc21 pm21 an21 cd21 ct21 | 41 => PySem.W.fnOf "_law_right" "_law_right" (defArgs s_law_right) (defBody s_law_right) (defScope s_law_right) .none kV41 dc41 pm41 an41 cd41 ct41 | 29 => PySem.W.fnOf "_law_open" "_law_open" (defArgs s_law_open) (defBody s_law_open) (defScope s_law_open) .none kV29 dc29 pm29 an29 cd29 ct29 | 42 => PySem.W.fnOf "law" "law" (defArgs s_law) (defBody s_law) (defScope s_law) .none kV42 dc42 pm42 an42 cd42 ct42 | _ => PySem.W.fnOf "law" "law" (defArgs s_law) (defBody s_law) (defScope s_law) .none kV42 dc42 pm42 an42 cd42 ct42) := ⟨⟨(List.forall_mem_cons.mpr ⟨⟨⟨pg0, hd0, po0, sa0⟩, ha0, hm0⟩, (List.forall_mem_cons.mpr ⟨⟨⟨pg1, hd1, po1, sa1⟩, ha1, hm1⟩, (List.forall_mem_cons.mpr ⟨⟨⟨pg2, hd2, po2, sa2⟩, ha2, hm2⟩, (List.forall_mem_cons.mpr ⟨⟨⟨pg3, hd3, po3, sa3⟩, ha3, hm3⟩, (List.forall_mem_cons.mpr ⟨⟨⟨pg4, hd4, po4, sa4⟩, ha4, hm4⟩, (List.forall_mem_cons.mpr ⟨⟨⟨pg5, hd5, po5, sa5⟩, ha5, hm5⟩, (fun _ h => absurd h List.not_mem_nil)⟩)⟩)⟩)⟩)⟩)⟩), hn, ht, (List.forall_mem_cons.mpr ⟨(List.forall_mem_cons.mpr ⟨oo0_0, (List.forall_mem_cons.mpr ⟨oo0_1, (List.forall_mem_cons.mpr ⟨oo0_2, (List.forall_mem_cons.mpr ⟨oo0_3, (List.forall_mem_cons.mpr ⟨oo0_4, (List.forall_mem_cons.mpr ⟨oo0_5, (fun _ h => absurd h List.not_mem_nil)⟩)⟩)⟩)⟩)⟩)⟩), (List.forall_mem_cons.mpr ⟨(List.forall_mem_cons.mpr ⟨oo1_0, (List.forall_mem_cons.mpr ⟨oo1_1, (List.forall_mem_cons.mpr ⟨oo1_2, (List.forall_mem_cons.mpr ⟨oo1_3, (List.forall_mem_cons.mpr ⟨oo1_4, (List.forall_mem_cons.mpr ⟨oo1_5, (fun _ h => absurd h List.not_mem_nil)⟩)⟩)⟩)⟩)⟩)⟩), (List.forall_mem_cons.mpr ⟨(List.forall_mem_cons.mpr ⟨oo2_0, (List.forall_mem_cons.mpr ⟨oo2_1, (List.forall_mem_cons.mpr ⟨oo2_2, (List.forall_mem_cons.mpr ⟨oo2_3, (List.forall_mem_cons.mpr ⟨oo2_4, (List.forall_mem_cons.mpr ⟨oo2_5, (fun _ h => absurd h List.not_mem_nil)⟩)⟩)⟩)⟩)⟩)⟩), (List.forall_mem_cons.mpr ⟨(List.forall_mem_cons.mpr ⟨oo3_0, (List.forall_mem_cons.mpr ⟨oo3_1, (List.forall_mem_cons.mpr ⟨oo3_2, (List.forall_mem_cons.mpr ⟨oo3_3, (List.forall_mem_cons.mpr ⟨oo3_4, (List.forall_mem_cons.mpr ⟨oo3_5, (fun _ h => absurd h List.not_mem_nil)⟩)⟩)⟩)⟩)⟩)⟩), (List.forall_mem_cons.mpr ⟨(List.forall_mem_cons.mpr ⟨oo4_0, (List.forall_mem_cons.mpr ⟨oo4_1, (List.forall_mem_cons.mpr ⟨oo4_2, (List.forall_mem_cons.mpr ⟨oo4_3, (List.forall_mem_cons.mpr ⟨oo4_4, (List.forall_mem_cons.mpr ⟨oo4_5, (fun _ h => absurd h List.not_mem_nil)⟩)⟩)⟩)⟩)⟩)⟩), (List.forall_mem_cons.mpr ⟨(List.forall_mem_cons.mpr ⟨oo5_0, (List.forall_mem_cons.mpr ⟨oo5_1, (List.forall_mem_cons.mpr ⟨oo5_2, (List.forall_mem_cons.mpr ⟨oo5_3, (List.forall_mem_cons.mpr ⟨oo5_4, (List.forall_mem_cons.mpr ⟨oo5_5, (fun _ h => absurd h List.not_mem_nil)⟩)⟩)⟩)⟩)⟩)⟩), (fun _ h => absurd h List.not_mem_nil)⟩)⟩)⟩)⟩)⟩)⟩), (List.forall_mem_cons.mpr ⟨(List.forall_mem_cons.mpr ⟨ob0_NoneType, (List.forall_mem_cons.mpr ⟨ob0_bool, (List.forall_mem_cons.mpr ⟨ob0_int, (List.forall_mem_cons.mpr ⟨ob0_str, (List.forall_mem_cons.mpr ⟨ob0_list, (List.forall_mem_cons.mpr ⟨ob0_tuple, (List.forall_mem_cons.mpr ⟨ob0_dict, (fun _ h => absurd h List.not_mem_nil)⟩)⟩)⟩)⟩)⟩)⟩)⟩), (List.forall_mem_cons.mpr ⟨(List.forall_mem_cons.mpr ⟨ob1_NoneType, (List.forall_mem_cons.mpr ⟨ob1_bool, (List.forall_mem_cons.mpr ⟨ob1_int, (List.forall_mem_cons.mpr ⟨ob1_str, (List.forall_mem_cons.mpr ⟨ob1_list, (List.forall_mem_cons.mpr ⟨ob1_tuple, (List.forall_mem_cons.mpr ⟨ob1_dict, (fun _ h => absurd h List.not_mem_nil)⟩)⟩)⟩)⟩)⟩)⟩)⟩), (List.forall_mem_cons.mpr ⟨(List.forall_mem_cons.mpr ⟨ob2_NoneType, (List.forall_mem_cons.mpr ⟨ob2_bool, (List.forall_mem_cons.mpr ⟨ob2_int, (List.forall_mem_cons.mpr ⟨ob2_str, (List.forall_mem_cons.mpr ⟨ob2_list, (List.forall_mem_cons.mpr ⟨ob2_tuple, (List.forall_mem_cons.mpr ⟨ob2_dict, (fun _ h => absurd h List.not_mem_nil)⟩)⟩)⟩)⟩)⟩)⟩)⟩), (List.forall_mem_cons.mpr ⟨(List.forall_mem_cons.mpr ⟨ob3_NoneType, (List.forall_mem_cons.mpr ⟨ob3_bool, (List.forall_mem_cons.mpr ⟨ob3_int, (List.forall_mem_cons.mpr ⟨ob3_str, (List.forall_mem_cons.mpr ⟨ob3_list, (List.forall_mem_cons.mpr ⟨ob3_tuple, (List.forall_mem_cons.mpr ⟨ob3_dict, (fun _ h => absurd h List.not_mem_nil)⟩)⟩)⟩)⟩)⟩)⟩)⟩), (List.forall_mem_cons.mpr ⟨(List.forall_mem_cons.mpr ⟨ob4_NoneType, (List.forall_mem_cons.mpr ⟨ob4_bool, (List.forall_mem_cons.mpr ⟨ob4_int, (List.forall_mem_cons.mpr ⟨ob4_str, (List.forall_mem_cons.mpr ⟨ob4_list, (List.forall_mem_cons.mpr ⟨ob4_tuple, (List.forall_mem_cons.mpr ⟨ob4_dict, (fun _ h => absurd h List.not_mem_nil)⟩)⟩)⟩)⟩)⟩)⟩)⟩), (List.forall_mem_cons.mpr ⟨(List.forall_mem_cons.mpr ⟨ob5_NoneType, (List.forall_mem_cons.mpr ⟨ob5_bool, (List.forall_mem_cons.mpr ⟨ob5_int, (List.forall_mem_cons.mpr ⟨ob5_str, (List.forall_mem_cons.mpr ⟨ob5_list, (List.forall_mem_cons.mpr ⟨ob5_tuple, (List.forall_mem_cons.mpr ⟨ob5_dict, (fun _ h => absurd h List.not_mem_nil)⟩)⟩)⟩)⟩)⟩)⟩)⟩), (fun _ h => absurd h List.not_mem_nil)⟩)⟩)⟩)⟩)⟩)⟩), (List.forall_mem_cons.mpr ⟨(List.forall_mem_cons.mpr ⟨bo0_NoneType, (List.forall_mem_cons.mpr ⟨bo0_bool, (List.forall_mem_cons.mpr ⟨bo0_int, (List.forall_mem_cons.mpr ⟨bo0_str, (List.forall_mem_cons.mpr ⟨bo0_list, (List.forall_mem_cons.mpr ⟨bo0_tuple, (List.forall_mem_cons.mpr ⟨bo0_dict, (fun _ h => absurd h List.not_mem_nil)⟩)⟩)⟩)⟩)⟩)⟩)⟩), (List.forall_mem_cons.mpr ⟨(List.forall_mem_cons.mpr ⟨bo1_NoneType, (List.forall_mem_cons.mpr ⟨bo1_bool, (List.forall_mem_cons.mpr ⟨bo1_int, (List.forall_mem_cons.mpr ⟨bo1_str, (List.forall_mem_cons.mpr ⟨bo1_list, (List.forall_mem_cons.mpr ⟨bo1_tuple, (List.forall_mem_cons.mpr ⟨bo1_dict, (fun _ h => absurd h List.not_mem_nil)⟩)⟩)⟩)⟩)⟩)⟩)⟩), (List.forall_mem_cons.mpr ⟨(List.forall_mem_cons.mpr ⟨bo2_NoneType, (List.forall_mem_cons.mpr ⟨bo2_bool, (List.forall_mem_cons.mpr ⟨bo2_int, (List.forall_mem_cons.mpr ⟨bo2_str, (List.forall_mem_cons.mpr ⟨bo2_list, (List.forall_mem_cons.mpr ⟨bo2_tuple, (List.forall_mem_cons.mpr ⟨bo2_dict, (fun _ h => absurd h List.not_mem_nil)⟩)⟩)⟩)⟩)⟩)⟩)⟩), (List.forall_mem_cons.mpr ⟨(List.forall_mem_cons.mpr ⟨bo3_NoneType, (List.forall_mem_cons.mpr ⟨bo3_bool, (List.forall_mem_cons.mpr ⟨bo3_int, (List.forall_mem_cons.mpr ⟨bo3_str, (List.forall_mem_cons.mpr ⟨bo3_list, (List.forall_mem_cons.mpr ⟨bo3_tuple, (List.forall_mem_cons.mpr ⟨bo3_dict, (fun _ h => absurd h List.not_mem_nil)⟩)⟩)⟩)⟩)⟩)⟩)⟩), (List.forall_mem_cons.mpr ⟨(List.forall_mem_cons.mpr ⟨bo4_NoneType, (List.forall_mem_cons.mpr ⟨bo4_bool, (List.forall_mem_cons.mpr ⟨bo4_int, (List.forall_mem_cons.mpr ⟨bo4_str, (List.forall_mem_cons.mpr ⟨bo4_list, (List.forall_mem_cons.mpr ⟨bo4_tuple, (List.forall_mem_cons.mpr ⟨bo4_dict, (fun _ h => absurd h List.not_mem_nil)⟩)⟩)⟩)⟩)⟩)⟩)⟩), (List.forall_mem_cons.mpr ⟨(List.forall_mem_cons.mpr ⟨bo5_NoneType, (List.forall_mem_cons.mpr ⟨bo5_bool, (List.forall_mem_cons.mpr ⟨bo5_int, (List.forall_mem_cons.mpr ⟨bo5_str, (List.forall_mem_cons.mpr ⟨bo5_list, (List.forall_mem_cons.mpr ⟨bo5_tuple, (List.forall_mem_cons.mpr ⟨bo5_dict, (fun _ h => absurd h List.not_mem_nil)⟩)⟩)⟩)⟩)⟩)⟩)⟩), (fun _ h => absurd h List.not_mem_nil)⟩)⟩)⟩)⟩)⟩)⟩)⟩,
    PySem.W.mg_none_of X G b_ValueError,
    PySem.W.mg_none_of X G b_bool,
    PySem.W.mg_none_of X G b_int,
    PySem.W.mg_none_of X G b_isinstance,
    PySem.W.mg_none_of X G b_len,
    PySem.W.mg_none_of X G b_list,
    PySem.W.mg_none_of X G b_max,
    PySem.W.mg_none_of X G b_min,
    PySem.W.mg_none_of X G b_range,
    PySem.W.mg_none_of X G b_sorted,
    PySem.W.mg_none_of X G b_tuple,
    ⟨pg0, hd0, po0, sa0⟩,
    PySem.W.mg_of X G ac0,
    ⟨pg1, hd1, po1, sa1⟩,
    PySem.W.mg_of X G ac1,
    ⟨pg2, hd2, po2, sa2⟩,
    PySem.W.mg_of X G ac2,
    ⟨pg3, hd3, po3, sa3⟩,
    PySem.W.mg_of X G ac3,
    ⟨pg4, hd4, po4, sa4⟩,
    PySem.W.mg_of X G ac4,
    ⟨pg5, hd5, po5, sa5⟩,
    PySem.W.mg_of X G ac5,
    ⟨mk0, a2, i2, kc0⟩,
    mk1,
    in1,
    kc1,
    mk2,
    in2,
    kc2,
    mk3,
    in3,
    kc3,
    mk4,
    in4,
    kc4,
    ⟨mk5, a19, i19, kc5⟩,
    PySem.W.mg_of X G ac24,
    PySem.W.mg_of X G ac21,
    PySem.W.mg_of X G ac13,
    PySem.W.mg_of X G ac12,
    PySem.W.mg_of X G ac16,
    PySem.W.mg_of X G ac11,
    PySem.W.mg_of X G ac15,
    PySem.W.mg_of X G ac23,
    PySem.W.mg_of X G ac10,
    PySem.W.mg_of X G ac20,
    PySem.W.mg_of X G ac14,
    PySem.W.mg_of X G ac18,
    PySem.W.mg_of X G ac17,
    PySem.W.mg_of X G ac22,
    PySem.W.mg_of X G ac19,
    ⟨xi14, xk14, bs14, ty14⟩,
    exm_of bs14 ic14 ty14 sb14_14,
    ⟨hg14, hk14, bs14, hdx14, hax14, hn, ht, hmx14⟩,
    ko14_DayError,
    ko14_InvalidCommand,
    ko14_InvalidDay,
    ko14_InvalidDeed,
    ko14_InvalidLines,
    ko14_InvalidMove,
    ko14_InvalidOrder,
    ko14_InvalidPlan,
    ko14_InvalidRow,
    ko14_InvalidText,
    ko14_NotEvener,
    ko14_NotFewer,
    ko14_NotReady,
    ko14_NothingToUndo,
    ko14_ValueError,
    na0_falling,
    na5_rule,
    na5_states,
    F19,
    b19,
    F34,
    b34,
    PySem.W.mg_of X G a34,
    k34,
    F30,
    b30,
    PySem.W.mg_of X G a30,
    k30,
    F39,
    b39,
    PySem.W.mg_of X G a39,
    k39,
    F26,
    b26,
    ⟨p26, at26, gt26, tk26, ⟨rest26, rc26⟩⟩,
    F31,
    b31,
    PySem.W.mg_of X G a31,
    k31,
    F32,
    b32,
    PySem.W.mg_of X G a32,
    k32,
    F27,
    b27,
    ⟨p27, at27, gt27, tk27, ⟨rest27, rc27⟩⟩,
    F36,
    b36,
    PySem.W.mg_of X G a36,
    k36,
    F1,
    b1,
    PySem.W.mg_of X G a1,
    k1,
    F2,
    b2,
    F25,
    b25,
    ⟨p25, at25, gt25, tk25, ⟨rest25, rc25⟩⟩,
    F3,
    b3,
    ⟨p3, at3, gt3, tk3, ⟨rest3, rc3⟩⟩,
    F23,
    b23,
    a23,
    i23,
    F24,
    b24,
    ⟨p24, at24, gt24, tk24, ⟨rest24, rc24⟩⟩,
    F28,
    b28,
    ⟨p28, at28, gt28, tk28, ⟨rest28, rc28⟩⟩,
    F37,
    b37,
    PySem.W.mg_of X G a37,
    k37,
    F38,
    b38,
    PySem.W.mg_of X G a38,
    k38,
    F33,
    b33,
    PySem.W.mg_of X G a33,
    k33,
    F35,
    b35,
    PySem.W.mg_of X G a35,
    k35,
    F20,
    b20,
    ⟨a20, i20, k20⟩,
    F22,
    b22,
    kb22,
    ⟨a22, i22, k22⟩,
    F40,
    b40,
    PySem.W.mg_of X G a40,
    k40,
    F18,
    b18,
    PySem.W.mg_of X G a18,
    k18,
    F21,
    b21,
    ⟨a21, i21, k21⟩,
    F41,
    b41,
    PySem.W.mg_of X G a41,
    k41,
    F29,
    b29,
    PySem.W.mg_of X G a29,
    k29,
    F42,
    b42,
    PySem.W.mg_of X G a42,
    k42⟩
  refine ⟨PySem.W.fnOf "law" "law" (defArgs s_law) (defBody s_law) (defScope s_law) .none kV42 dc42 pm42 an42 cd42 ct42, fun s v => .of_eq rfl, fun base _ _ => ?_⟩
  have o_liveday_init := ok_liveday_init (P := l.prog) (w := w) (base := base) T 
  have o_law_came := ok_law_came (P := l.prog) (w := w) (base := base) T 
  have o_law_pick := ok_law_pick (P := l.prog) (w := w) (base := base) T 
  have o_law_rule := ok_law_rule (P := l.prog) (w := w) (base := base) T 
  have o_liveday_plan := ok_liveday_plan (P := l.prog) (w := w) (base := base) T 
  have o_law_is_int := ok_law_is_int (P := l.prog) (w := w) (base := base) T 
  have o_law_same_ticks := ok_law_same_ticks (P := l.prog) (w := w) (base := base) T o_law_is_int
  have o_liveday_comings := ok_liveday_comings (P := l.prog) (w := w) (base := base) T 
  have o_law_is_comings := ok_law_is_comings (P := l.prog) (w := w) (base := base) T o_law_is_int
  have o_is_integer := ok_is_integer (P := l.prog) (w := w) (base := base) T 
  have o_row_init := ok_row_init (P := l.prog) (w := w) (base := base) T o_is_integer
  have o_liveday_row := ok_liveday_row (P := l.prog) (w := w) (base := base) T o_row_init
  have o_row_parts := ok_row_parts (P := l.prog) (w := w) (base := base) T 
  have o_liveday_len := ok_liveday_len (P := l.prog) (w := w) (base := base) T 
  have o_liveday_minute := ok_liveday_minute (P := l.prog) (w := w) (base := base) T 
  have o_liveday_waiting := ok_liveday_waiting (P := l.prog) (w := w) (base := base) T 
  have o_law_tells := ok_law_tells (P := l.prog) (w := w) (base := base) T o_law_same_ticks o_liveday_plan o_law_is_comings o_liveday_comings o_row_parts o_liveday_row o_law_is_int o_liveday_waiting o_liveday_minute o_liveday_len
  have o_law_shows := ok_law_shows (P := l.prog) (w := w) (base := base) T o_law_tells
  have o_law_next := ok_law_next (P := l.prog) (w := w) (base := base) T 
  have o_law_passed := ok_law_passed (P := l.prog) (w := w) (base := base) T o_law_next
  have o_liveday_come := ok_liveday_come (P := l.prog) (w := w) (base := base) T 
  have o_liveday_back := ok_liveday_back (P := l.prog) (w := w) (base := base) T 
  have o_law_refused := ok_law_refused (P := l.prog) (w := w) (base := base) T o_liveday_come
  have o_next_person := ok_next_person (P := l.prog) (w := w) (base := base) T 
  have o_liveday_over := ok_liveday_over (P := l.prog) (w := w) (base := base) T o_next_person
  have o_law_right := ok_law_right (P := l.prog) (w := w) (base := base) T o_liveday_back o_law_shows o_law_pick o_liveday_come o_law_came o_law_same_ticks o_liveday_over o_law_passed o_law_refused o_row_init o_liveday_init o_law_rule
  have o_law_open := ok_law_open (P := l.prog) (w := w) (base := base) T 
  have o_law := ok_law (P := l.prog) (w := w) (base := base) T o_law_right o_law_open
  exact fn_law o_law law_true
theorem walk {l : PySem.W.OpenLaw} {q : Program} {loose : List Str} {XP : (Str → Option Value) → Heap → Prop} {YP : World → Heap → Prop} {d : DefRec} {K : Params → PySem.W.Frag} (hn : l.most = some 63) (hdf : d.params.defaults = [])
    (hY : ∀ (w : World) (h : Heap), YP w h → (K w.params).In h)
    (F : ∀ (w : World) (mg : Str → Option Value) (fa : Addr) (h : Heap), (K w.params).In h → h.Ns mainGlobals mg → mg d.name = some (.ref fa) →
      ∃ fd : FuncData, (∀ (s : Shared) (u : Value), BindsTo s fd ⟨[u], []⟩ [("script", u)]) ∧ ∀ base : Heap, (K w.params).In base → base.Ns mainGlobals mg → FnOk l.prog w (K w.params) mg base CX0 14 fa fd ["script"] (spLaw (K w.params))) :
    PySem.W.WalkO q loose XP YP l.row.toRowW d [] (fun f vs => PySem.call f vs) :=
  walk_law (k := 14) hn ⟨rfl, by decide, by decide⟩ hdf hY F
end G
open PySem PySem.W PyProof.Rows
set_option maxRecDepth 100000 in
set_option maxHeartbeats 0 in
theorem PySem.Challenge.cw_fewestwait_k71_refused_works_holds : PySem.Challenge.rw_fewestwait_k71_refused_works.Holds := by
  w_on; o_law; k_head; (case hw => w_witness2)
  k_fill
  refine G.walk (l := PySem.Challenge.rw_fewestwait_k71_refused_works) rfl rfl (fun w h Y => PySem.W.kIn_of Y) ?F
  case F =>
    intro w mg fa h KX GN hmg
    refine' G.all_mk KX GN hmg ?ac0 ?ac1 ?ac2 ?ac3 ?ac4 ?ac5 ?pg0 ?hd0 ?po0 ?sa0 ?mk0 ?kc0 ?pg1 ?hd1 ?po1 ?sa1 ?mk1 ?kc1 ?in1 ?pg2 ?hd2 ?po2 ?sa2 ?mk2 ?kc2 ?in2 ?pg3 ?hd3 ?po3 ?sa3 ?mk3 ?kc3 ?in3 ?pg4 ?hd4 ?po4 ?sa4 ?mk4 ?kc4 ?in4 ?pg5 ?hd5 ?po5 ?sa5 ?mk5 ?kc5 ?ha0 ?hm0 ?oo0_0 ?oo0_1 ?oo0_2 ?oo0_3 ?oo0_4 ?oo0_5 ?ob0_NoneType ?bo0_NoneType ?ob0_bool ?bo0_bool ?ob0_int ?bo0_int ?ob0_str ?bo0_str ?ob0_list ?bo0_list ?ob0_tuple ?bo0_tuple ?ob0_dict ?bo0_dict ?ha1 ?hm1 ?oo1_0 ?oo1_1 ?oo1_2 ?oo1_3 ?oo1_4 ?oo1_5 ?ob1_NoneType ?bo1_NoneType ?ob1_bool ?bo1_bool ?ob1_int ?bo1_int ?ob1_str ?bo1_str ?ob1_list ?bo1_list ?ob1_tuple ?bo1_tuple ?ob1_dict ?bo1_dict ?ha2 ?hm2 ?oo2_0 ?oo2_1 ?oo2_2 ?oo2_3 ?oo2_4 ?oo2_5 ?ob2_NoneType ?bo2_NoneType ?ob2_bool ?bo2_bool ?ob2_int ?bo2_int ?ob2_str ?bo2_str ?ob2_list ?bo2_list ?ob2_tuple ?bo2_tuple ?ob2_dict ?bo2_dict ?ha3 ?hm3 ?oo3_0 ?oo3_1 ?oo3_2 ?oo3_3 ?oo3_4 ?oo3_5 ?ob3_NoneType ?bo3_NoneType ?ob3_bool ?bo3_bool ?ob3_int ?bo3_int ?ob3_str ?bo3_str ?ob3_list ?bo3_list ?ob3_tuple ?bo3_tuple ?ob3_dict ?bo3_dict ?ha4 ?hm4 ?oo4_0 ?oo4_1 ?oo4_2 ?oo4_3 ?oo4_4 ?oo4_5 ?ob4_NoneType ?bo4_NoneType ?ob4_bool ?bo4_bool ?ob4_int ?bo4_int ?ob4_str ?bo4_str ?ob4_list ?bo4_list ?ob4_tuple ?bo4_tuple ?ob4_dict ?bo4_dict ?ha5 ?hm5 ?oo5_0 ?oo5_1 ?oo5_2 ?oo5_3 ?oo5_4 ?oo5_5 ?ob5_NoneType ?bo5_NoneType ?ob5_bool ?bo5_bool ?ob5_int ?bo5_int ?ob5_str ?bo5_str ?ob5_list ?bo5_list ?ob5_tuple ?bo5_tuple ?ob5_dict ?bo5_dict ?ac10 ?ac11 ?ac12 ?ac13 ?ac14 ?ac15 ?ac16 ?ac17 ?ac18 ?ac19 ?ac20 ?ac21 ?ac22 ?ac23 ?ac24 ?bs14 ?ty14 ?xi14 ?xk14 ?ic14 ?sb14_14 ?hg14 ?hk14 ?hdx14 ?hax14 ?hmx14 ?ko14_DayError ?ko14_InvalidCommand ?ko14_InvalidDay ?ko14_InvalidDeed ?ko14_InvalidLines ?ko14_InvalidMove ?ko14_InvalidOrder ?ko14_InvalidPlan ?ko14_InvalidRow ?ko14_InvalidText ?ko14_NotEvener ?ko14_NotFewer ?ko14_NotReady ?ko14_NothingToUndo ?ko14_ValueError ?hn ?ht ?na0_falling ?na5_rule ?na5_states ?b_ValueError ?b_bool ?b_int ?b_isinstance ?b_len ?b_list ?b_max ?b_min ?b_range ?b_sorted ?b_tuple ?a19 ?i19 ?l19 ?cd19_ ?k19 ?a34 ?l34 ?cd34_ ?k34 ?a30 ?l30 ?cd30_ ?k30 ?a39 ?l39 ?cd39_ ?k39 ?at26 ?gt26 ?tk26 ?rc26 ?l26 ?cd26_ ?k26 ?a31 ?l31 ?cd31_ ?k31 ?a32 ?l32 ?cd32_ ?k32 ?at27 ?gt27 ?tk27 ?rc27 ?l27 ?cd27_ ?k27 ?a36 ?l36 ?cd36_ ?k36 ?a1 ?l1 ?cd1_ ?k1 ?a2 ?i2 ?l2 ?cd2_ ?k2 ?at25 ?gt25 ?tk25 ?rc25 ?l25 ?cd25_ ?k25 ?at3 ?gt3 ?tk3 ?rc3 ?l3 ?cd3_ ?k3 ?a23 ?i23 ?l23 ?cd23_ ?k23 ?at24 ?gt24 ?tk24 ?rc24 ?l24 ?cd24_ ?k24 ?at28 ?gt28 ?tk28 ?rc28 ?l28 ?cd28_ ?k28 ?a37 ?l37 ?cd37_ ?k37 ?a38 ?l38 ?cd38_ ?k38 ?a33 ?l33 ?cd33_ ?k33 ?a35 ?l35 ?cd35_ ?k35 ?a20 ?i20 ?l20 ?cd20_ ?k20 ?a22 ?i22 ?l22 ?kw22 ?cd22_ ?k22 ?a40 ?l40 ?cd40_ ?k40 ?a18 ?l18 ?cd18_ ?k18 ?a21 ?i21 ?l21 ?cd21_ ?k21 ?a41 ?l41 ?cd41_ ?k41 ?a29 ?l29 ?cd29_ ?k29 ?a42 ?l42 ?cd42_ ?k42
    (case ac0 => k_is)
    (case ac1 => k_is)
    (case ac2 => k_is)
    (case ac3 => k_is)
    (case ac4 => k_is)
    (case ac5 => k_is)
    (case pg0 => k_is)
    (case hd0 => k_is)
    (case po0 => k_is)
    (case sa0 => k_is)
    (case mk0 => k_is)
    (case kc0 => k_is)
    (case pg1 => k_is)
    (case hd1 => k_is)
    (case po1 => k_is)
    (case sa1 => k_is)
    (case mk1 => k_is)
    (case kc1 => k_is)
    (case in1 => k_is)
    (case pg2 => k_is)
    (case hd2 => k_is)
    (case po2 => k_is)
    (case sa2 => k_is)
    (case mk2 => k_is)
    (case kc2 => k_is)
    (case in2 => k_is)
    (case pg3 => k_is)
    (case hd3 => k_is)
    (case po3 => k_is)
    (case sa3 => k_is)
    (case mk3 => k_is)
    (case kc3 => k_is)
    (case in3 => k_is)
    (case pg4 => k_is)
    (case hd4 => k_is)
    (case po4 => k_is)
    (case sa4 => k_is)
    (case mk4 => k_is)
    (case kc4 => k_is)
    (case in4 => k_is)
    (case pg5 => k_is)
    (case hd5 => k_is)
    (case po5 => k_is)
    (case sa5 => k_is)
    (case mk5 => k_is)
    (case kc5 => k_is)
    (case ha0 => k_is)
    (case hm0 => k_is)
    (case oo0_0 => kit_is)
    (case oo0_1 => kit_is)
    (case oo0_2 => kit_is)
    (case oo0_3 => kit_is)
    (case oo0_4 => kit_is)
    (case oo0_5 => kit_is)
    (case ob0_NoneType => kit_is)
    (case bo0_NoneType => kit_is)
    (case ob0_bool => kit_is)
    (case bo0_bool => kit_is)
    (case ob0_int => kit_is)
    (case bo0_int => kit_is)
    (case ob0_str => kit_is)
    (case bo0_str => kit_is)
    (case ob0_list => kit_is)
    (case bo0_list => kit_is)
    (case ob0_tuple => kit_is)
    (case bo0_tuple => kit_is)
    (case ob0_dict => kit_is)
    (case bo0_dict => kit_is)
    (case ha1 => k_is)
    (case hm1 => k_is)
    (case oo1_0 => kit_is)
    (case oo1_1 => kit_is)
    (case oo1_2 => kit_is)
    (case oo1_3 => kit_is)
    (case oo1_4 => kit_is)
    (case oo1_5 => kit_is)
    (case ob1_NoneType => kit_is)
    (case bo1_NoneType => kit_is)
    (case ob1_bool => kit_is)
    (case bo1_bool => kit_is)
    (case ob1_int => kit_is)
    (case bo1_int => kit_is)
    (case ob1_str => kit_is)
    (case bo1_str => kit_is)
    (case ob1_list => kit_is)
    (case bo1_list => kit_is)
    (case ob1_tuple => kit_is)
    (case bo1_tuple => kit_is)
    (case ob1_dict => kit_is)
    (case bo1_dict => kit_is)
    (case ha2 => k_is)
    (case hm2 => k_is)
    (case oo2_0 => kit_is)
    (case oo2_1 => kit_is)
    (case oo2_2 => kit_is)
    (case oo2_3 => kit_is)
    (case oo2_4 => kit_is)
    (case oo2_5 => kit_is)
    (case ob2_NoneType => kit_is)
    (case bo2_NoneType => kit_is)
    (case ob2_bool => kit_is)
    (case bo2_bool => kit_is)
    (case ob2_int => kit_is)
    (case bo2_int => kit_is)
    (case ob2_str => kit_is)
    (case bo2_str => kit_is)
    (case ob2_list => kit_is)
    (case bo2_list => kit_is)
    (case ob2_tuple => kit_is)
    (case bo2_tuple => kit_is)
    (case ob2_dict => kit_is)
    (case bo2_dict => kit_is)
    (case ha3 => k_is)
    (case hm3 => k_is)
    (case oo3_0 => kit_is)
    (case oo3_1 => kit_is)
    (case oo3_2 => kit_is)
    (case oo3_3 => kit_is)
    (case oo3_4 => kit_is)
    (case oo3_5 => kit_is)
    (case ob3_NoneType => kit_is)
    (case bo3_NoneType => kit_is)
    (case ob3_bool => kit_is)
    (case bo3_bool => kit_is)
    (case ob3_int => kit_is)
    (case bo3_int => kit_is)
    (case ob3_str => kit_is)
    (case bo3_str => kit_is)
    (case ob3_list => kit_is)
    (case bo3_list => kit_is)
    (case ob3_tuple => kit_is)
    (case bo3_tuple => kit_is)
    (case ob3_dict => kit_is)
    (case bo3_dict => kit_is)
    (case ha4 => k_is)
    (case hm4 => k_is)
    (case oo4_0 => kit_is)
    (case oo4_1 => kit_is)
    (case oo4_2 => kit_is)
    (case oo4_3 => kit_is)
    (case oo4_4 => kit_is)
    (case oo4_5 => kit_is)
    (case ob4_NoneType => kit_is)
    (case bo4_NoneType => kit_is)
    (case ob4_bool => kit_is)
    (case bo4_bool => kit_is)
    (case ob4_int => kit_is)
    (case bo4_int => kit_is)
    (case ob4_str => kit_is)
    (case bo4_str => kit_is)
    (case ob4_list => kit_is)
    (case bo4_list => kit_is)
    (case ob4_tuple => kit_is)
    (case bo4_tuple => kit_is)
    (case ob4_dict => kit_is)
    (case bo4_dict => kit_is)
    (case ha5 => k_is)
    (case hm5 => k_is)
    (case oo5_0 => kit_is)
    (case oo5_1 => kit_is)
    (case oo5_2 => kit_is)
    (case oo5_3 => kit_is)
    (case oo5_4 => kit_is)
    (case oo5_5 => kit_is)
    (case ob5_NoneType => kit_is)
    (case bo5_NoneType => kit_is)
    (case ob5_bool => kit_is)
    (case bo5_bool => kit_is)
    (case ob5_int => kit_is)
    (case bo5_int => kit_is)
    (case ob5_str => kit_is)
    (case bo5_str => kit_is)
    (case ob5_list => kit_is)
    (case bo5_list => kit_is)
    (case ob5_tuple => kit_is)
    (case bo5_tuple => kit_is)
    (case ob5_dict => kit_is)
    (case bo5_dict => kit_is)
    (case ac10 => k_is)
    (case ac11 => k_is)
    (case ac12 => k_is)
    (case ac13 => k_is)
    (case ac14 => k_is)
    (case ac15 => k_is)
    (case ac16 => k_is)
    (case ac17 => k_is)
    (case ac18 => k_is)
    (case ac19 => k_is)
    (case ac20 => k_is)
    (case ac21 => k_is)
    (case ac22 => k_is)
    (case ac23 => k_is)
    (case ac24 => k_is)
    (case bs14 => k_is)
    (case ty14 => k_is)
    (case xi14 => k_exc)
    (case xk14 => k_is)
    (case ic14 => k_is)
    (case sb14_14 => first | rfl | k_is)
    (case hg14 => k_is)
    (case hk14 => k_is)
    (case hdx14 => k_is)
    (case hax14 => k_is)
    (case hmx14 => k_is)
    (case ko14_DayError => kit_is)
    (case ko14_InvalidCommand => kit_is)
    (case ko14_InvalidDay => kit_is)
    (case ko14_InvalidDeed => kit_is)
    (case ko14_InvalidLines => kit_is)
    (case ko14_InvalidMove => kit_is)
    (case ko14_InvalidOrder => kit_is)
    (case ko14_InvalidPlan => kit_is)
    (case ko14_InvalidRow => kit_is)
    (case ko14_InvalidText => kit_is)
    (case ko14_NotEvener => kit_is)
    (case ko14_NotFewer => kit_is)
    (case ko14_NotReady => kit_is)
    (case ko14_NothingToUndo => kit_is)
    (case ko14_ValueError => kit_is)
    (case hn => k_is)
    (case ht => k_is)
    (case na0_falling => k_is)
    (case na5_rule => k_is)
    (case na5_states => k_is)
    (case b_ValueError => k_is)
    (case b_bool => k_is)
    (case b_int => k_is)
    (case b_isinstance => k_is)
    (case b_len => k_is)
    (case b_list => k_is)
    (case b_max => k_is)
    (case b_min => k_is)
    (case b_range => k_is)
    (case b_sorted => k_is)
    (case b_tuple => k_is)
    (case a19 => k_is)
    (case i19 => k_is)
    (case l19 => k_is)
    (case cd19_ => k_is)
    (case k19 => k_is)
    (case a34 => k_is)
    (case l34 => k_is)
    (case cd34_ => k_is)
    (case k34 => k_is)
    (case a30 => k_is)
    (case l30 => k_is)
    (case cd30_ => k_is)
    (case k30 => k_is)
    (case a39 => k_is)
    (case l39 => k_is)
    (case cd39_ => k_is)
    (case k39 => k_is)
    (case at26 => k_is)
    (case gt26 => k_is)
    (case tk26 => k_is)
    (case rc26 => k_is)
    (case l26 => k_is)
    (case cd26_ => k_is)
    (case k26 => k_is)
    (case a31 => k_is)
    (case l31 => k_is)
    (case cd31_ => k_is)
    (case k31 => k_is)
    (case a32 => k_is)
    (case l32 => k_is)
    (case cd32_ => k_is)
    (case k32 => k_is)
    (case at27 => k_is)
    (case gt27 => k_is)
    (case tk27 => k_is)
    (case rc27 => k_is)
    (case l27 => k_is)
    (case cd27_ => k_is)
    (case k27 => k_is)
    (case a36 => k_is)
    (case l36 => k_is)
    (case cd36_ => k_is)
    (case k36 => k_is)
    (case a1 => k_is)
    (case l1 => k_is)
    (case cd1_ => k_is)
    (case k1 => k_is)
    (case a2 => k_is)
    (case i2 => k_is)
    (case l2 => k_is)
    (case cd2_ => k_is)
    (case k2 => k_is)
    (case at25 => k_is)
    (case gt25 => k_is)
    (case tk25 => k_is)
    (case rc25 => k_is)
    (case l25 => k_is)
    (case cd25_ => k_is)
    (case k25 => k_is)
    (case at3 => k_is)
    (case gt3 => k_is)
    (case tk3 => k_is)
    (case rc3 => k_is)
    (case l3 => k_is)
    (case cd3_ => k_is)
    (case k3 => k_is)
    (case a23 => k_is)
    (case i23 => k_is)
    (case l23 => k_is)
    (case cd23_ => k_is)
    (case k23 => k_is)
    (case at24 => k_is)
    (case gt24 => k_is)
    (case tk24 => k_is)
    (case rc24 => k_is)
    (case l24 => k_is)
    (case cd24_ => k_is)
    (case k24 => k_is)
    (case at28 => k_is)
    (case gt28 => k_is)
    (case tk28 => k_is)
    (case rc28 => k_is)
    (case l28 => k_is)
    (case cd28_ => k_is)
    (case k28 => k_is)
    (case a37 => k_is)
    (case l37 => k_is)
    (case cd37_ => k_is)
    (case k37 => k_is)
    (case a38 => k_is)
    (case l38 => k_is)
    (case cd38_ => k_is)
    (case k38 => k_is)
    (case a33 => k_is)
    (case l33 => k_is)
    (case cd33_ => k_is)
    (case k33 => k_is)
    (case a35 => k_is)
    (case l35 => k_is)
    (case cd35_ => k_is)
    (case k35 => k_is)
    (case a20 => k_is)
    (case i20 => k_is)
    (case l20 => k_is)
    (case cd20_ => k_is)
    (case k20 => k_is)
    (case a22 => k_is)
    (case i22 => k_is)
    (case l22 => k_is)
    (case kw22 => k_is)
    (case cd22_ => k_is)
    (case k22 => k_is)
    (case a40 => k_is)
    (case l40 => k_is)
    (case cd40_ => k_is)
    (case k40 => k_is)
    (case a18 => k_is)
    (case l18 => k_is)
    (case cd18_ => k_is)
    (case k18 => k_is)
    (case a21 => k_is)
    (case i21 => k_is)
    (case l21 => k_is)
    (case cd21_ => k_is)
    (case k21 => k_is)
    (case a41 => k_is)
    (case l41 => k_is)
    (case cd41_ => k_is)
    (case k41 => k_is)
    (case a29 => k_is)
    (case l29 => k_is)
    (case cd29_ => k_is)
    (case k29 => k_is)
    (case a42 => k_is)
    (case l42 => k_is)
    (case cd42_ => k_is)
    (case k42 => k_is)
