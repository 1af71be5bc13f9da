import PyProof.Rows.All
import Wide.All
import OpenK.AllK
import Wide.FinOn
import HandS.ForMost
import HandS.ForExc
import HandS.Wide
import HandS.TupAny
import HandS.IsInst
import HandS.Deep
import HandS.NoneIn
import HandS.SortRule
import HandS.Rev
import KE.SortData
import HandS.TupLen
import HandS.RevTup
import KE.KDictList
import HandS.SetKeys
import HandS.Iter
import KE.KDictPairs
import HandS.ListItems
import HandS.Zip
import HandS.Conv
import HandS.ExcOwn
import PyProof.MaxThree
import HandS.Defaults
import HandS.CallSlots
import HandS.ExcIs
import HandS.Text
import HandS.StrMore
import HandS.RaiseMore
import KE.IntTextLaws
import PyProof.Draws
import PyProof.EnumMake
import PyProof.Rows.StrLast
import PyProof.Rows.StrFirst
import HandS.TupSets
import HandS.Set
import KE.DataCmp
import PySem.Challenge.RW_shapethin_k41_pieces_walked
set_option Elab.async false
set_option linter.all false
set_option maxRecDepth 100000
set_option maxHeartbeats 8000000
namespace FL
open PySem PySem.Spec PyProof.Rows L2
/-! FL: a layer of functions over HandS: data without the heap, what stands for it, what an expression or a block is worth. -/
/-- Python data without the heap -/
inductive D where
  | non | bl (b : Bool) | int (i : Int) | str (s : Str)
  | tup (xs : List D) | lst (xs : List D)
  | dK (kvs : List (Key × D)) | dT (kvs : List (List Key × D))
  | obj (c : Str) (fs : List (Str × D))
  | scr (ns : List Int)
  | ctup (xs : List D)
def keyO : D → Option Key
  | .int i => some (.inl i)
  | .str s => some (.inr s)
  | _ => none
/-- pairs with a number or a text ahead -/
def pairsO : List D → Option (List (Key × D))
  | [] => some []
  | .tup [k, v] :: r => match keyO k, pairsO r with
    | some k, some r => some ((k, v) :: r)
    | _, _ => none
  | _ => none
/-- how a tuple stands: one of pairs with its object (it has no dict of its own) -/
def Tk (F : Hp) (a : Addr) (xs : List V) (ds : List D) : Prop := (pairsO ds = none ∧ F a = some (.tup xs)) ∨ (pairsO ds ≠ none ∧ ∃ o : Obj, o.dict = none ∧ F a = some (.frz o (.tup xs)))
theorem Tk.rd {F : Hp} {a : Addr} {xs : List V} {ds : List D} (h : Tk F a xs ds) : Rd F a (.tup xs) := h.elim (fun h => .inl h.2) fun ⟨_, o, _, h⟩ => .inr ⟨o, h⟩
theorem Tk.seqT {F : Hp} {a : Addr} {xs : List V} {ds : List D} {K : PySem.W.Frag} (h : Tk F a xs ds) : SqT K F a xs := .inl h.rd
theorem Tk.mono {F F' : Hp} {a : Addr} {xs : List V} {ds : List D} (e : Same F F') (h : Tk F a xs ds) : Tk F' a xs ds := h.elim (fun h => .inl ⟨h.1, e _ _ h.2⟩) fun ⟨hn, o, h1, h⟩ => .inr ⟨hn, o, h1, e _ _ h⟩
/-- what an expression is worth: a datum, an error of an own class, or nothing that we speak of -/
inductive Res (α : Type) where
  | ok (a : α) | ex (c : Str) | no
def Res.bind {α β : Type} : Res α → (α → Res β) → Res β
  | .ok a, f => f a
  | .ex c, _ => .ex c
  | .no, _ => .no
abbrev Ev0 := List (Option D)
/-- what a block is worth -/
inductive Out where
  | nx (ρ : Ev0) | rt (d : D) | bk (ρ : Ev0) | ct (ρ : Ev0) | ex (c : Str) | no
structure Gx where
  K : PySem.W.Frag
  ct : Str → Option Addr
variable {Γ : Gx}
mutual
inductive Rep (Γ : Gx) (F : Hp) : V → D → Prop
  | non : Rep Γ F .non .non
  | bl (b : Bool) : Rep Γ F (.bl b) (.bl b)
  | int (i : Int) : Rep Γ F (.int i) (.int i)
  | str (s : Str) : Rep Γ F (.str s) (.str s)
  | tup {a : Addr} {xs : List V} {ds : List D} : Tk F a xs ds → RepL Γ F xs ds → Rep Γ F (.ref a) (.tup ds)
  | ctup {a : Addr} {xs : List V} {ds : List D} : (∀ F', SqT Γ.K F' a xs) → RepL Γ F xs ds → Rep Γ F (.ref a) (.ctup ds)
  | lst {a : Addr} {xs : List V} {ds : List D} : F a = some (.lst xs) → RepL Γ F xs ds → Rep Γ F (.ref a) (.lst ds)
  | dK {a : Addr} {kvs : List (Key × V)} {ds : List (Key × D)} : Rd F a (.dK kvs) → kvs.map (·.1) = ds.map (·.1) → RepL Γ F (kvs.map (·.2)) (ds.map (·.2)) → Rep Γ F (.ref a) (.dK ds)
  | dT {a : Addr} {kvs : List (List Key × V)} {ds : List (List Key × D)} : Rd F a (.dT kvs) → kvs.map (·.1) = ds.map (·.1) → RepL Γ F (kvs.map (·.2)) (ds.map (·.2)) → Rep Γ F (.ref a) (.dT ds)
  | obj {a C dx : Addr} {c : Str} {fs : List (Str × V)} {ds : List (Str × D)} : F a = some (.ins C dx fs) → Γ.ct c = some C → fs.map (·.1) = ds.map (·.1) → RepL Γ F (fs.map (·.2)) (ds.map (·.2)) → Rep Γ F (.ref a) (.obj c ds)
  | scr {a : Addr} {ns : List Int} : SqL Γ.K F a (ns.map V.int) → Rep Γ F (.ref a) (.scr ns)
inductive RepL (Γ : Gx) (F : Hp) : List V → List D → Prop
  | nil : RepL Γ F [] []
  | cons {v : V} {vs : List V} {d : D} {ds : List D} : Rep Γ F v d → RepL Γ F vs ds → RepL Γ F (v :: vs) (d :: ds)
end
theorem Same.rd {H H' : Hp} {a : Addr} {u : HO} (e : Same H H') (h : Rd H a u) : Rd H' a u := by
  rcases h with h | ⟨o, h⟩
  · exact .inl (e _ _ h)
  · exact .inr ⟨o, e _ _ h⟩
theorem Same.seqT {K : PySem.W.Frag} {H H' : Hp} {a : Addr} {xs : List V} (e : Same H H') (h : SqT K H a xs) : SqT K H' a xs := by
  rcases h with h | h
  · exact .inl (Same.rd e h)
  · exact .inr h
mutual
theorem Rep.mono {F F' : Hp} (e : Same F F') : ∀ {v : V} {d : D}, Rep Γ F v d → Rep Γ F' v d
  | _, _, .non => .non
  | _, _, .bl b => .bl b
  | _, _, .int i => .int i
  | _, _, .str s => .str s
  | _, _, .tup h r => .tup (h.mono e) (RepL.mono e r)
  | _, _, .ctup h r => .ctup h (RepL.mono e r)
  | _, _, .lst h r => .lst (e _ _ h) (RepL.mono e r)
  | _, _, .dK h k r => .dK (Same.rd e h) k (RepL.mono e r)
  | _, _, .dT h k r => .dT (Same.rd e h) k (RepL.mono e r)
  | _, _, .obj h c k r => .obj (e _ _ h) c k (RepL.mono e r)
  | _, _, .scr h => .scr (e.seq h)
theorem RepL.mono {F F' : Hp} (e : Same F F') : ∀ {vs : List V} {ds : List D}, RepL Γ F vs ds → RepL Γ F' vs ds
  | _, _, .nil => .nil
  | _, _, .cons h r => .cons (Rep.mono e h) (RepL.mono e r)
end
theorem RepL.length {F : Hp} : ∀ {vs : List V} {ds : List D}, RepL Γ F vs ds → vs.length = ds.length
  | _, _, .nil => rfl
  | _, _, .cons _ r => congrArg (· + 1) r.length
theorem RepL.get {F : Hp} : ∀ {vs : List V} {ds : List D} {i : Nat} {d : D}, RepL Γ F vs ds → ds[i]? = some d → ∃ v, vs[i]? = some v ∧ Rep Γ F v d
  | _, _, _, _, .nil, e => by simp at e
  | _, _, 0, _, .cons h _, e => by simp at e; subst e; exact ⟨_, rfl, h⟩
  | _, _, i + 1, _, .cons _ r, e => by
    obtain ⟨v, h1, h2⟩ := RepL.get (i := i) r (by simpa using e)
    exact ⟨v, by simpa using h1, h2⟩
theorem RepL.get' {F : Hp} : ∀ {vs : List V} {ds : List D} {i : Nat} {v : V}, RepL Γ F vs ds → vs[i]? = some v → ∃ d, ds[i]? = some d ∧ Rep Γ F v d
  | _, _, _, _, .nil, e => by simp at e
  | _, _, 0, _, .cons h _, e => by simp at e; subst e; exact ⟨_, rfl, h⟩
  | _, _, i + 1, _, .cons _ r, e => by
    obtain ⟨v, h1, h2⟩ := RepL.get' (i := i) r (by simpa using e)
    exact ⟨v, by simpa using h1, h2⟩
theorem RepL.ints {F : Hp} : ∀ ns : List Int, RepL Γ F (ns.map V.int) (ns.map D.int)
  | [] => .nil
  | n :: ns => .cons (.int n) (RepL.ints ns)
theorem RepL.append {F : Hp} : ∀ {vs ws : List V} {ds es : List D}, RepL Γ F vs ds → RepL Γ F ws es → RepL Γ F (vs ++ ws) (ds ++ es)
  | _, _, _, _, .nil, s => s
  | _, _, _, _, .cons h r, s => .cons h (RepL.append r s)
theorem RepL.take {F : Hp} : ∀ {vs : List V} {ds : List D} (n : Nat), RepL Γ F vs ds → RepL Γ F (vs.take n) (ds.take n)
  | _, _, 0, _ => .nil
  | _, _, _ + 1, .nil => .nil
  | _, _, n + 1, .cons h r => .cons h (RepL.take n r)
theorem RepL.drop {F : Hp} : ∀ {vs : List V} {ds : List D} (n : Nat), RepL Γ F vs ds → RepL Γ F (vs.drop n) (ds.drop n)
  | _, _, 0, r => r
  | _, _, _ + 1, .nil => .nil
  | _, _, n + 1, .cons _ r => RepL.drop n r
theorem RepL.set {F : Hp} {v : V} {d : D} (r : Rep Γ F v d) : ∀ {vs : List V} {ds : List D} (i : Nat), RepL Γ F vs ds → RepL Γ F (vs.set i v) (ds.set i d)
  | _, _, _, .nil => .nil
  | _, _, 0, .cons _ t => .cons r t
  | _, _, i + 1, .cons q t => .cons q (RepL.set r i t)
theorem RepL.dropLast {F : Hp} {vs : List V} {ds : List D} (h : RepL Γ F vs ds) : RepL Γ F vs.dropLast ds.dropLast := by
  rw [List.dropLast_eq_take, List.dropLast_eq_take, h.length]
  exact h.take _
theorem RepL.reverse {F : Hp} : ∀ {vs : List V} {ds : List D}, RepL Γ F vs ds → RepL Γ F vs.reverse ds.reverse
  | _, _, .nil => .nil
  | _, _, .cons h r => by
    rw [List.reverse_cons, List.reverse_cons]
    exact RepL.append (RepL.reverse r) (.cons h .nil)
/-- what an own object holds -/
inductive Hold (Γ : Gx) (F : Hp) : HO → D → Prop
  | lst {xs : List V} {ds : List D} : RepL Γ F xs ds → Hold Γ F (.lst xs) (.lst ds)
  | dK {kvs : List (Key × V)} {ds : List (Key × D)} : kvs.map (·.1) = ds.map (·.1) → RepL Γ F (kvs.map (·.2)) (ds.map (·.2)) → Hold Γ F (.dK kvs) (.dK ds)
  | dT {kvs : List (List Key × V)} {ds : List (List Key × D)} : kvs.map (·.1) = ds.map (·.1) → RepL Γ F (kvs.map (·.2)) (ds.map (·.2)) → Hold Γ F (.dT kvs) (.dT ds)
theorem Hold.mono {F F' : Hp} (e : Same F F') {o : HO} {d : D} (h : Hold Γ F o d) : Hold Γ F' o d := by
  cases h with
  | lst r => exact .lst (r.mono e)
  | dK k r => exact .dK k (r.mono e)
  | dT k r => exact .dT k (r.mono e)
theorem Hold.rep {F : Hp} {o : HO} {d : D} {p : Addr} (h : Hold Γ F o d) (e : F p = some o) : Rep Γ F (.ref p) d := by
  cases h with
  | lst r => exact .lst e r
  | dK k r => exact .dK (.inl e) k r
  | dT k r => exact .dT (.inl e) k r
/-- the frozen heap F grows to F', the heap H to H' -/
structure Ext (F H F' H' : Hp) : Prop where
  f : Same F F'
  h : Same H H'
  i : Same F' H'
  n : ∀ a o, F' a = some o → (∃ u, F a = some u) ∨ H a = none ∨ ∃ ks : List Key, H a = some (.tup (ks.map kV))
theorem Ext.refl {F H : Hp} (s : Same F H) : Ext F H F H := ⟨Same.refl F, Same.refl H, s, fun a o e => .inl ⟨o, e⟩⟩
theorem Ext.trans {F H F1 H1 F2 H2 : Hp} (a : Ext F H F1 H1) (b : Ext F1 H1 F2 H2) : Ext F H F2 H2 :=
  ⟨a.f.trans b.f, a.h.trans b.h, b.i, fun x o e => by
    rcases b.n x o e with ⟨u, h⟩ | h | ⟨xs, h⟩
    · exact a.n x u h
    · exact .inr (.inl (a.h.free h))
    · cases z : H x with
      | none => exact .inr (.inl rfl)
      | some u =>
        have := a.h _ _ z
        rw [h] at this
        cases this
        exact .inr (.inr ⟨xs, rfl⟩)⟩
theorem same_new {F : Hp} {p : Addr} {o : HO} (h : F p = none) : Same F (upd F p o) := fun b x e => by
  rw [upd_ne (ne_of_none e h)]
  exact e
theorem same_upd2 {F H : Hp} {p : Addr} {o : HO} (s : Same F H) : Same (upd F p o) (upd H p o) := fun b x e => by
  by_cases hb : b = p
  · subst hb
    rw [upd_same] at e ⊢
    exact e
  · rw [upd_ne hb] at e ⊢
    exact s _ _ e
/-- a new object, shared -/
theorem Ext.new {F H : Hp} {p : Addr} {o : HO} (s : Same F H) (h : H p = none) : Ext F H (upd F p o) (upd H p o) :=
  ⟨same_new (s.free h), same_new h, same_upd2 s, fun a u e => by
    by_cases hb : a = p
    · subst hb; exact .inr (.inl h)
    · rw [upd_ne hb] at e
      exact .inl ⟨u, e⟩⟩
/-- a new object, own -/
theorem Ext.own {F H : Hp} {p : Addr} {o : HO} (s : Same F H) (h : H p = none) : Ext F H F (upd H p o) :=
  ⟨Same.refl F, same_new h, s.trans (same_new h), fun a u e => .inl ⟨u, e⟩⟩
/-- an own object becomes shared -/
theorem Ext.freeze {F H F' H' : Hp} {p : Addr} {o : HO} (e : Ext F H F' H') (hp : H p = none) (fp : F' p = none) (h : H' p = some o) : Ext F H (upd F' p o) H' :=
  ⟨e.f.trans (same_new fp), e.h, fun b x q => by
    by_cases hb : b = p
    · subst hb; rw [upd_same] at q; cases q; exact h
    · rw [upd_ne hb] at q; exact e.i _ _ q, fun a u q => by
    by_cases hb : a = p
    · subst hb; exact .inr (.inl hp)
    · rw [upd_ne hb] at q; exact e.n _ _ q⟩
/-- the kinds of a result: shared; an own new object; the top as it stands, its parts shared; as it stands -/
inductive Kd where
  | sh | ow | ov | ob
/-- the top of a datum as it stands in H, its parts shared -/
inductive Rep1 (Γ : Gx) (F H : Hp) : V → D → Prop
  | sc {v : V} {d : D} : Rep Γ F v d → Rep1 Γ F H v d
  | ow {p : Addr} {o : HO} {d : D} : H p = some o → Hold Γ F o d → Rep1 Γ F H (.ref p) d
def OwnR (Γ : Gx) (H F' H' : Hp) (k : Kd) (v : V) (d : D) : Prop := match k with
  | .sh => Rep Γ F' v d
  | .ow => ∃ p o, v = .ref p ∧ H p = none ∧ F' p = none ∧ H' p = some o ∧ Hold Γ F' o d
  | .ov => Rep1 Γ F' H' v d
  | .ob => Rep Γ H' v d
theorem Rep1.rep {F H : Hp} (s : Same F H) {v : V} {d : D} (h : Rep1 Γ F H v d) : Rep Γ H v d := by
  cases h with
  | sc r => exact r.mono s
  | ow e h => exact (h.mono s).rep e
theorem OwnR.toV {H F H' : Hp} {k : Kd} {v : V} {d : D} (h : OwnR Γ H F H' k v d) (hk : k ≠ .ob) : Rep1 Γ F H' v d := by
  cases k with
  | sh => exact .sc h
  | ow =>
    obtain ⟨p, o, rfl, _, _, e, q⟩ := h
    exact .ow e q
  | ov => exact h
  | ob => exact absurd rfl hk
theorem OwnR.toB {H F H' : Hp} {k : Kd} {v : V} {d : D} (s : Same F H') (h : OwnR Γ H F H' k v d) : Rep Γ H' v d := by
  cases k with
  | ob => exact h
  | sh => exact Rep.mono s h
  | ow => exact (OwnR.toV h (by intro z; cases z)).rep s
  | ov => exact Rep1.rep s h
/-- the slots: M the own ones -/
def OwnS (Γ : Gx) (H0 F H : Hp) (own : Bool) (v : V) (d : D) : Prop := match own with
  | false => Rep Γ F v d
  | true => ∃ p o, v = .ref p ∧ H0 p = none ∧ F p = none ∧ H p = some o ∧ Hold Γ F o d
structure EO (Γ : Gx) (F0 H0 F H : Hp) (M : List Nat) (σ : L2.St) (ρ : Ev0) : Prop where
  len : σ.length = ρ.length
  ext : Ext F0 H0 F H
  slot : ∀ i d, ρ[i]? = some (some d) → ∃ v, σ[i]? = some (some v) ∧ OwnS Γ H0 F H (M.contains i) v d
  disj : ∀ i j p d e, i ≠ j → M.contains i = true → M.contains j = true → ρ[i]? = some (some d) → ρ[j]? = some (some e) → σ[i]? = some (some (.ref p)) → σ[j]? ≠ some (some (.ref p))
theorem Hold.ntup {F : Hp} {o : HO} {d : D} (h : Hold Γ F o d) (xs : List V) : o ≠ .tup xs := fun z => by subst z; cases h
theorem OwnS.ext {H0 F H F' H' : Hp} {b : Bool} {v : V} {d : D} (e : Ext F H F' H') (h : OwnS Γ H0 F H b v d) : OwnS Γ H0 F' H' b v d := by
  cases b with
  | false => exact Rep.mono e.f h
  | true =>
    obtain ⟨p, o, rfl, h0, hf, hp, q⟩ := h
    refine ⟨p, o, rfl, h0, ?_, e.h _ _ hp, q.mono e.f⟩
    cases z : F' p with
    | none => rfl
    | some u =>
      rcases e.n _ _ z with ⟨w, y⟩ | y | ⟨xs, y⟩
      · rw [hf] at y; cases y
      · rw [hp] at y; cases y
      · rw [hp] at y; cases y; exact absurd rfl (q.ntup _)
theorem EO.extend {F0 H0 F H F' H' : Hp} {M : List Nat} {σ : L2.St} {ρ : Ev0} (E : EO Γ F0 H0 F H M σ ρ) (e : Ext F H F' H') : EO Γ F0 H0 F' H' M σ ρ :=
  ⟨E.len, E.ext.trans e, fun i d h => let ⟨v, h1, h2⟩ := E.slot i d h; ⟨v, h1, h2.ext e⟩, E.disj⟩
theorem EO.same {F0 H0 F H : Hp} {M : List Nat} {σ : L2.St} {ρ : Ev0} (E : EO Γ F0 H0 F H M σ ρ) : Same F H := E.ext.i
/-- slot i is shared from now on -/
theorem EO.freeze {F0 H0 F H : Hp} {M : List Nat} {σ : L2.St} {ρ : Ev0} (E : EO Γ F0 H0 F H M σ ρ) (i : Nat) : ∃ F', Same F F' ∧ EO Γ F0 H0 F' H (M.filter (· != i)) σ ρ := by
  have cf : ∀ j, j ≠ i → (M.filter (· != i)).contains j = M.contains j := fun j hj => by
    rw [Bool.eq_iff_iff]
    simp [List.contains_iff_mem, hj]
  have ci : (M.filter (· != i)).contains i = false := by
    cases z : (M.filter (· != i)).contains i with
    | false => rfl
    | true =>
      have := List.contains_iff_mem.mp z
      simp at this
  have dj : ∀ j k p d e, j ≠ k → (M.filter (· != i)).contains j = true → (M.filter (· != i)).contains k = true → ρ[j]? = some (some d) → ρ[k]? = some (some e) → σ[j]? = some (some (.ref p)) → σ[k]? ≠ some (some (.ref p)) := fun j k p d e hjk h1 h2 => by
    have nj : j ≠ i := fun z => by rw [z, ci] at h1; cases h1
    have nk : k ≠ i := fun z => by rw [z, ci] at h2; cases h2
    rw [cf j nj] at h1
    rw [cf k nk] at h2
    exact E.disj j k p d e hjk h1 h2
  have keep : (M.contains i = false ∨ ∀ d, ρ[i]? ≠ some (some d)) → ∃ F', Same F F' ∧ EO Γ F0 H0 F' H (M.filter (· != i)) σ ρ := fun hk => by
    refine ⟨F, Same.refl F, E.len, E.ext, fun j d h => ?_, dj⟩
    obtain ⟨v, h1, h2⟩ := E.slot j d h
    refine ⟨v, h1, ?_⟩
    by_cases hj : j = i
    · subst hj
      rcases hk with hk | hk
      · rw [hk] at h2; rw [ci]; exact h2
      · exact absurd h (hk d)
    · rw [cf j hj]; exact h2
  cases hM : M.contains i with
  | false => exact keep (.inl hM)
  | true =>
    cases hd : ρ[i]? with
    | none => exact keep (.inr fun d z => by rw [hd] at z; cases z)
    | some od =>
      cases od with
      | none => exact keep (.inr fun d z => by rw [hd] at z; cases z)
      | some d =>
        obtain ⟨v, hv, hs⟩ := E.slot i d hd
        rw [hM] at hs
        obtain ⟨p, o, rfl, h0, hf, hp, q⟩ := hs
        have sf : Same F (upd F p o) := same_new hf
        refine ⟨upd F p o, sf, E.len, ⟨E.ext.f.trans sf, E.ext.h, fun b x z => ?_, fun a u z => ?_⟩, fun j d' h => ?_, dj⟩
        · by_cases hb : b = p
          · subst hb; rw [upd_same] at z; cases z; exact hp
          · rw [upd_ne hb] at z; exact E.same _ _ z
        · by_cases hb : a = p
          · subst hb; exact .inr (.inl h0)
          · rw [upd_ne hb] at z; exact E.ext.n _ _ z
        · obtain ⟨w, h1, h2⟩ := E.slot j d' h
          refine ⟨w, h1, ?_⟩
          by_cases hj : j = i
          · subst hj
            rw [hd] at h; cases h
            rw [hv] at h1; cases h1
            rw [ci]
            exact (q.mono sf).rep upd_same
          · rw [cf j hj]
            cases hMj : M.contains j with
            | false => rw [hMj] at h2; exact Rep.mono sf h2
            | true =>
              rw [hMj] at h2
              obtain ⟨p', o', rfl, h0', hf', hp', q'⟩ := h2
              have npp : p' ≠ p := fun z => by
                subst z
                exact E.disj i j p' d d' (Ne.symm hj) hM hMj hd h hv h1
              exact ⟨p', o', rfl, h0', by rw [upd_ne npp]; exact hf', hp', q'.mono sf⟩
end FL
namespace FL
open PySem PySem.Spec PyProof.Rows L2
variable {Γ : Gx}
theorem RepL.one {F : Hp} {v : V} {d : D} (h : Rep Γ F v d) : RepL Γ F [v] [d] := .cons h .nil
theorem Rep1.ext {F H F' H' : Hp} (e : Ext F H F' H') {v : V} {d : D} (h : Rep1 Γ F H v d) : Rep1 Γ F' H' v d := by
  cases h with
  | sc r => exact .sc (r.mono e.f)
  | ow q h => exact .ow (e.h _ _ q) (h.mono e.f)
/-- an operand as it stands -/
def RelK (Γ : Gx) (F H : Hp) (k : Kd) (v : V) (d : D) : Prop := match k with
  | .sh => Rep Γ F v d
  | .ow => Rep1 Γ F H v d
  | .ov => Rep1 Γ F H v d
  | .ob => Rep Γ H v d
theorem OwnR.rel {H0 F H : Hp} {k : Kd} {v : V} {d : D} (h : OwnR Γ H0 F H k v d) : RelK Γ F H k v d := by
  cases k with
  | sh => exact h
  | ow => exact OwnR.toV h (by intro z; cases z)
  | ov => exact h
  | ob => exact h
theorem RelK.ext {F H F' H' : Hp} (e : Ext F H F' H') {k : Kd} {v : V} {d : D} (h : RelK Γ F H k v d) : RelK Γ F' H' k v d := by
  cases k with
  | sh => exact Rep.mono e.f h
  | ow => exact Rep1.ext e h
  | ov => exact Rep1.ext e h
  | ob => exact Rep.mono e.h h
theorem RelK.toB {F H : Hp} (s : Same F H) {k : Kd} {v : V} {d : D} (h : RelK Γ F H k v d) : Rep Γ H v d := by
  cases k with
  | sh => exact Rep.mono s h
  | ow => exact Rep1.rep s h
  | ov => exact Rep1.rep s h
  | ob => exact h
/-! ### what is wanted of an end -/
abbrev RG (α β : Type) := Hp → Hp → Hp → β → α → Prop
def RG.Mono {α β : Type} (R : RG α β) : Prop := ∀ H H1 F' H' b a, Same H H1 → R H1 F' H' b a → R H F' H' b a
def PostG {α β : Type} (Γ : Gx) (W : WX) (F H : Hp) (σ : L2.St) (R : RG α β) (r : Res α) (Q : β → Hp → Prop) : Prop := match r with
  | .ok a => ∀ F' H' b, Ext F H F' H' → R H F' H' b a → Q b H'
  | .ex c => ∀ F' H' C, Ext F H F' H' → Γ.ct c = some C → W (.ref C) none σ H'
  | .no => False
def EvG {α β : Type} (Γ : Gx) (W : WX) (M : List Nat) (t : L2.St → Hp → (β → Hp → Prop) → Prop) (R : RG α β) (g : Ev0 → Res α) : Prop :=
  ∀ F0 H0 F H σ ρ (Q : β → Hp → Prop), EO Γ F0 H0 F H M σ ρ → PostG Γ W F H σ R (g ρ) Q → t σ H Q
abbrev RE (Γ : Gx) (k : Kd) : RG D V := fun H F' H' v d => OwnR Γ H F' H' k v d
abbrev RB : RG Bool Bool := fun _ _ _ b a => b = a
abbrev RA (Γ : Gx) : RG (List D) (List V) := fun _ F' _ vs ds => RepL Γ F' vs ds
abbrev RAb (Γ : Gx) : RG (List D) (List V) := fun _ _ H' vs ds => RepL Γ H' vs ds
theorem RE.mono {k : Kd} : RG.Mono (RE Γ k) := fun H H1 F' H' v d s h => by
  cases k with
  | sh => exact h
  | ow =>
    obtain ⟨p, o, e, h1, h2⟩ := h
    exact ⟨p, o, e, s.free h1, h2⟩
  | ov => exact h
  | ob => exact h
theorem RB.mono : RG.Mono RB := fun _ _ _ _ _ _ _ h => h
theorem RA.mono : RG.Mono (RA Γ) := fun _ _ _ _ _ _ _ h => h
theorem RAb.mono : RG.Mono (RAb Γ) := fun _ _ _ _ _ _ _ h => h
section
variable {α β γ δ : Type} {W : WX} {F H F1 H1 : Hp} {σ : L2.St}
theorem PostG.mono {R : RG α β} {r : Res α} {Q : β → Hp → Prop} (m : RG.Mono R) (e : Ext F H F1 H1) (h : PostG Γ W F H σ R r Q) : PostG Γ W F1 H1 σ R r Q := by
  cases r with
  | ok a => exact fun F' H' b e' q => h F' H' b (e.trans e') (m _ _ _ _ _ _ e.h q)
  | ex c => exact fun F' H' C e' q => h F' H' C (e.trans e') q
  | no => exact h
/-- one after another -/
theorem EvG.bind {M : List Nat} {t : L2.St → Hp → (β → Hp → Prop) → Prop} {R : RG α β} {g : Ev0 → Res α} {S : RG γ δ} {f : α → Res γ} {Q : δ → Hp → Prop} {K : β → Hp → Prop} {F0 H0 : Hp} {ρ : Ev0}
    (ha : EvG Γ W M t R g) (mS : RG.Mono S) (E : EO Γ F0 H0 F H M σ ρ) (hp : PostG Γ W F H σ S ((g ρ).bind f) Q)
    (step : ∀ a F1 H1 b, Ext F H F1 H1 → EO Γ F0 H0 F1 H1 M σ ρ → R H F1 H1 b a → PostG Γ W F1 H1 σ S (f a) Q → K b H1) : t σ H K := by
  refine ha F0 H0 F H σ ρ K E ?_
  cases h : g ρ with
  | ok a =>
    rw [h] at hp
    exact fun F' H' b e r => step a F' H' b e (E.extend e) r (PostG.mono mS e hp)
  | ex c =>
    rw [h] at hp
    exact hp
  | no =>
    rw [h] at hp
    exact hp.elim
theorem EvG.imp {M : List Nat} {t : L2.St → Hp → (β → Hp → Prop) → Prop} {R R' : RG α β} {g : Ev0 → Res α} (ha : EvG Γ W M t R g) (h : ∀ H F' H' b a, Same F' H' → R H F' H' b a → R' H F' H' b a) : EvG Γ W M t R' g := fun F0 H0 F H σ ρ Q E hp => by
  refine ha F0 H0 F H σ ρ Q E ?_
  cases e : g ρ with
  | ok a =>
    rw [e] at hp
    exact fun F' H' b x r => hp F' H' b x (h _ _ _ _ _ x.i r)
  | ex c => rw [e] at hp; exact hp
  | no => rw [e] at hp; exact hp
end
/-! ### the judgements -/
structure FE {ι : Type} (Γ : Gx) (X : ι → Cx) (W : WX) (M : List Nat) (e : Expr) (k : Kd) (g : Ev0 → Res D) : Prop where
  ex : ∃ t : TE, (∀ i, PE (X i) e t) ∧ EvG Γ W M t (RE Γ k) g
structure FT {ι : Type} (Γ : Gx) (X : ι → Cx) (W : WX) (M : List Nat) (e : Expr) (g : Ev0 → Res Bool) : Prop where
  ex : ∃ t : TT, (∀ i, PT (X i) e t) ∧ EvG Γ W M t RB g
structure FW {ι : Type} (Γ : Gx) (X : ι → Cx) (W : WX) (M : List Nat) (e : Expr) (g : Ev0 → Res Bool) : Prop where
  ex : ∃ t : TT, (∀ i, PW (X i) e t) ∧ EvG Γ W M t RB g
structure FA {ι : Type} (Γ : Gx) (X : ι → Cx) (W : WX) (M : List Nat) (es : List Expr) (g : Ev0 → Res (List D)) : Prop where
  ex : ∃ t : TA, (∀ i, PA (X i) es t) ∧ EvG Γ W M t (RA Γ) g
/-- what holds of every context of the family -/
structure Amb {ι : Type} (Γ : Gx) (X : ι → Cx) : Prop where
  K : ∀ i, (X i).K = Γ.K
  calm : ∀ i, (X i).calm = true
  nd : ∀ i, (X i).N.Nodup
  un : ∀ i, (X i).A.units + 64 < cLine
  un2 : ∀ i, (X i).A.units + 128 < cLine
section
variable {ι : Type} {X : ι → Cx} {W : WX} {M : List Nat} {e a b c : Expr} {k ka kb kc : Kd} {pos : Pos}
theorem FE.ob {g : Ev0 → Res D} (h : FE Γ X W M e k g) : FE Γ X W M e .ob g := by
  obtain ⟨t, ht, ev⟩ := h.ex
  exact ⟨t, ht, ev.imp fun H F' H' v d s r => OwnR.toB s r⟩
theorem FE.ov {g : Ev0 → Res D} (h : FE Γ X W M e k g) (hk : k ≠ .ob := by intro z; cases z) : FE Γ X W M e .ov g := by
  obtain ⟨t, ht, ev⟩ := h.ex
  exact ⟨t, ht, ev.imp fun H F' H' v d s r => OwnR.toV r hk⟩
/-- an own new object is shared -/
theorem FE.sh {g : Ev0 → Res D} (h : FE Γ X W M e .ow g) : FE Γ X W M e .sh g := by
  obtain ⟨t, ht, ev⟩ := h.ex
  refine ⟨t, ht, fun F0 H0 F H σ ρ Q E hp => ev F0 H0 F H σ ρ Q E ?_⟩
  cases q : g ρ with
  | ok a =>
    rw [q] at hp
    rintro F' H' v x ⟨p, o, rfl, hn, fn, hp', hh⟩
    exact hp _ _ _ (x.freeze hn fn hp') ((hh.mono (same_new fn)).rep upd_same)
  | ex c => rw [q] at hp; exact hp
  | no => rw [q] at hp; exact hp
def gVar (i : Nat) : Ev0 → Res D := fun ρ => match ρ[i]? with
  | some (some d) => .ok d
  | _ => .no
theorem ev_var {i : Nat} (hk : k = .sh ∧ M.contains i = false ∨ k = .ov) : EvG Γ W M (tVar i) (RE Γ k) (gVar i) := fun F0 H0 F H σ ρ Q E hp => by
  unfold gVar at hp
  cases h : ρ[i]? with
  | none => rw [h] at hp; exact hp.elim
  | some o =>
    cases o with
    | none => rw [h] at hp; exact hp.elim
    | some d =>
      rw [h] at hp
      obtain ⟨v, hv, hs⟩ := E.slot i d h
      refine ⟨v, hv, hp F H v (Ext.refl E.same) ?_⟩
      rcases hk with ⟨rfl, hm⟩ | rfl
      · rw [hm] at hs
        exact hs
      · cases hm : M.contains i with
        | false => rw [hm] at hs; exact .sc hs
        | true =>
          rw [hm] at hs
          obtain ⟨p, o, rfl, _, _, h1, h2⟩ := hs
          exact .ow h1 h2
theorem fe_var (i : Nat) {x : Str} (hN : ∀ j, (X j).N[i]? = some x) (hv : ∀ j, Vis (X j).env.scope x) (hm : M.contains i = false) (hd : (x == ("__debug__" : Str)) = false := by decide) (hcd : (x == ("__classdict__" : Str)) = false := by decide) : FE Γ X W M (.Name x pos) .sh (gVar i) :=
  ⟨_, fun j => pe_var (hN j) (hv j) hd hcd, ev_var (.inl ⟨rfl, hm⟩)⟩
theorem fe_varO (i : Nat) {x : Str} (hN : ∀ j, (X j).N[i]? = some x) (hv : ∀ j, Vis (X j).env.scope x) (hd : (x == ("__debug__" : Str)) = false := by decide) (hcd : (x == ("__classdict__" : Str)) = false := by decide) : FE Γ X W M (.Name x pos) .ov (gVar i) :=
  ⟨_, fun j => pe_var (hN j) (hv j) hd hcd, ev_var (.inr rfl)⟩
def gC (d : D) : Ev0 → Res D := fun _ => .ok d
theorem ev_c {v : V} {d : D} (h : ∀ F, Rep Γ F v d) : EvG Γ W M (tC v) (RE Γ .sh) (gC d) := fun F0 H0 F H σ ρ Q E hp => hp F H v (Ext.refl E.same) (h F)
theorem fe_int {i : Int} {j : Nat} : FE Γ X W M (.Constant (.int i) j pos) .sh (gC (.int i)) := ⟨_, fun _ => pe_int, ev_c fun _ => .int i⟩
theorem fe_bl {b : Bool} {j : Nat} : FE Γ X W M (.Constant (.bool b) j pos) .sh (gC (.bl b)) := ⟨_, fun _ => pe_bl, ev_c fun _ => .bl b⟩
theorem fe_non {j : Nat} : FE Γ X W M (.Constant .none j pos) .sh (gC .non) := ⟨_, fun _ => pe_non, ev_c fun _ => .non⟩
theorem fe_str {s : Str} {j : Nat} : FE Γ X W M (.Constant (.str s) j pos) .sh (gC (.str s)) := ⟨_, fun _ => pe_str, ev_c fun _ => .str s⟩
/-! ### operators by values -/
def OpS (Γ : Gx) (r : R2) (ka kb k : Kd) (op : D → D → Res D) : Prop :=
  ∀ W F H σ Q x y a b, Same F H → RelK Γ F H ka x a → RelK Γ F H kb y b → PostG Γ W F H σ (RE Γ k) (op a b) Q → r x y H Q
def g2 (ga gb : Ev0 → Res D) (op : D → D → Res D) : Ev0 → Res D := fun ρ => (ga ρ).bind fun a => (gb ρ).bind fun b => op a b
def g1 (ga : Ev0 → Res D) (op : D → Res D) : Ev0 → Res D := fun ρ => (ga ρ).bind op
theorem ev_op {r : R2} {op : D → D → Res D} {ta tb : TE} {ga gb : Ev0 → Res D} (ho : OpS Γ r ka kb k op) (ha : EvG Γ W M ta (RE Γ ka) ga) (hb : EvG Γ W M tb (RE Γ kb) gb) : EvG Γ W M (tOp r ta tb) (RE Γ k) (g2 ga gb op) := fun F0 H0 F H σ ρ Q E hp => by
  show ta σ H _
  refine EvG.bind ha RE.mono E hp fun da F1 H1 x e1 E1 r1 hp1 => ?_
  refine EvG.bind hb RE.mono E1 hp1 fun db F2 H2 y e2 E2 r2 hp2 => ?_
  exact ho W F2 H2 σ Q x y da db E2.same ((OwnR.rel r1).ext e2) (OwnR.rel r2) hp2
theorem fe_bin {op : Operator} {r : Gx → R2} {o : D → D → Res D} {ga gb : Ev0 → Res D} (ho : ∀ i, OpR (X i) (binaryOp op) (r Γ)) (hs : OpS Γ (r Γ) ka kb k o) (ha : FE Γ X W M a ka ga) (hb : FE Γ X W M b kb gb) : FE Γ X W M (.BinOp a op b pos) k (g2 ga gb o) := by
  obtain ⟨ta, pa, ea⟩ := ha.ex
  obtain ⟨tb, pb, eb⟩ := hb.ex
  exact ⟨_, fun i => pe_op (ho i) (pa i) (pb i), ev_op hs ea eb⟩
theorem fe_cmp {op : CmpOp} {r : Gx → R2} {o : D → D → Res D} {ga gb : Ev0 → Res D} (ho : ∀ i, OpR (X i) (compareOp op) (r Γ)) (hs : OpS Γ (r Γ) ka kb k o) (ha : FE Γ X W M a ka ga) (hb : FE Γ X W M b kb gb) (hm : behindInMarks op b = false) : FE Γ X W M (.Compare a [op] [b] pos) k (g2 ga gb o) := by
  obtain ⟨ta, pa, ea⟩ := ha.ex
  obtain ⟨tb, pb, eb⟩ := hb.ex
  exact ⟨_, fun i => pe_cmpR (ho i) (pa i) (pb i) hm, ev_op hs ea eb⟩
/-- a truth of a datum that is one -/
def asB : D → Res Bool
  | .bl b => .ok b
  | _ => .no
def gT (g : Ev0 → Res D) : Ev0 → Res Bool := fun ρ => (g ρ).bind asB
theorem Rep.bl_inv {F : Hp} {v : V} {d : D} (h : Rep Γ F v d) {b : Bool} (hb : asB d = .ok b) : v = .bl b := by
  cases h <;> first | (unfold asB at hb; cases hb; rfl) | (unfold asB at hb; cases hb)
theorem ev_test {t : TE} {g : Ev0 → Res D} (h : EvG Γ W M t (RE Γ k) g) : EvG Γ W M (fun σ H Q => t σ H fun x H' => ∃ k, x = .bl k ∧ Q k H') RB (gT g) := fun F0 H0 F H σ ρ Q E hp => by
  refine EvG.bind h RB.mono E hp fun d F1 H1 x e1 E1 r1 hp1 => ?_
  cases hb : asB d with
  | ok c =>
    rw [hb] at hp1
    exact ⟨c, (OwnR.toB E1.same r1).bl_inv hb, hp1 F1 H1 c (Ext.refl E1.same) rfl⟩
  | ex c => cases d <;> cases hb
  | no => rw [hb] at hp1; exact hp1.elim
theorem ft_cmp {op : CmpOp} {r : Gx → R2} {o : D → D → Res D} {ga gb : Ev0 → Res D} (ho : ∀ i, OpR (X i) (compareOp op) (r Γ)) (hs : OpS Γ (r Γ) ka kb k o) (ha : FE Γ X W M a ka ga) (hb : FE Γ X W M b kb gb) (hm : behindInMarks op b = false) : FT Γ X W M (.Compare a [op] [b] pos) (gT (g2 ga gb o)) := by
  obtain ⟨ta, pa, ea⟩ := ha.ex
  obtain ⟨tb, pb, eb⟩ := hb.ex
  exact ⟨_, fun i => pt_cmpR (ho i) (pa i) (pb i) hm, ev_test (ev_op hs ea eb)⟩
theorem ft_val {g : Ev0 → Res D} (h : FE Γ X W M e k g) (he : ∀ i whole, isTrue e (X i).env whole = (do let v ← whole; standAt e.pos; holding [v] (truthy v))) : FT Γ X W M e (gT g) := by
  obtain ⟨t, p, ev⟩ := h.ex
  exact ⟨_, fun i => pt_val (p i) (he i), ev_test ev⟩
/-! ### and, or, not -/
def gAnd (f g : Ev0 → Res Bool) : Ev0 → Res Bool := fun ρ => (f ρ).bind fun c => if c = true then g ρ else .ok false
def gOr (f g : Ev0 → Res Bool) : Ev0 → Res Bool := fun ρ => (f ρ).bind fun c => if c = true then .ok true else g ρ
def gNot (f : Ev0 → Res Bool) : Ev0 → Res Bool := fun ρ => (f ρ).bind fun c => .ok (!c)
theorem ev_and {t u : TT} {f g : Ev0 → Res Bool} (ht : EvG Γ W M t RB f) (hu : EvG Γ W M u RB g) : EvG Γ W M (tAnd t u) RB (gAnd f g) := fun F0 H0 F H σ ρ Q E hp => by
  show t σ H _
  refine EvG.bind ht RB.mono E hp fun c F1 H1 x e1 E1 r1 hp1 => ?_
  subst r1
  cases x with
  | true => exact hu F0 H0 F1 H1 σ ρ Q E1 hp1
  | false => exact hp1 F1 H1 false (Ext.refl E1.same) rfl
theorem ev_or {t u : TT} {f g : Ev0 → Res Bool} (ht : EvG Γ W M t RB f) (hu : EvG Γ W M u RB g) : EvG Γ W M (tOr t u) RB (gOr f g) := fun F0 H0 F H σ ρ Q E hp => by
  show t σ H _
  refine EvG.bind ht RB.mono E hp fun c F1 H1 x e1 E1 r1 hp1 => ?_
  subst r1
  cases x with
  | true => exact hp1 F1 H1 true (Ext.refl E1.same) rfl
  | false => exact hu F0 H0 F1 H1 σ ρ Q E1 hp1
theorem ev_not {t : TT} {f : Ev0 → Res Bool} (ht : EvG Γ W M t RB f) : EvG Γ W M (tNot t) RB (gNot f) := fun F0 H0 F H σ ρ Q E hp => by
  show t σ H _
  refine EvG.bind ht RB.mono E hp fun c F1 H1 x e1 E1 r1 hp1 => ?_
  subst r1
  exact hp1 F1 H1 (!x) (Ext.refl E1.same) rfl
variable {rest : List Expr} {f g : Ev0 → Res Bool}
theorem fw_and1 (h : FT Γ X W M a f) : FW Γ X W M (.BoolOp .And [a] pos) f := by
  obtain ⟨t, p, ev⟩ := h.ex
  exact ⟨_, fun i => pw_and1 (p i), ev⟩
theorem fw_or1 (h : FT Γ X W M a f) : FW Γ X W M (.BoolOp .Or [a] pos) f := by
  obtain ⟨t, p, ev⟩ := h.ex
  exact ⟨_, fun i => pw_or1 (p i), ev⟩
theorem fw_and (h : FT Γ X W M a f) (hb : FW Γ X W M (.BoolOp .And (b :: rest) pos) g) : FW Γ X W M (.BoolOp .And (a :: b :: rest) pos) (gAnd f g) := by
  obtain ⟨t, p, ev⟩ := h.ex
  obtain ⟨u, q, ew⟩ := hb.ex
  exact ⟨_, fun i => pw_and (p i) (q i), ev_and ev ew⟩
theorem fw_or (h : FT Γ X W M a f) (hb : FW Γ X W M (.BoolOp .Or (b :: rest) pos) g) : FW Γ X W M (.BoolOp .Or (a :: b :: rest) pos) (gOr f g) := by
  obtain ⟨t, p, ev⟩ := h.ex
  obtain ⟨u, q, ew⟩ := hb.ex
  exact ⟨_, fun i => pw_or (p i) (q i), ev_or ev ew⟩
theorem FW.ft (h : FW Γ X W M e f) : FT Γ X W M e f := by
  obtain ⟨t, p, ev⟩ := h.ex
  exact ⟨_, fun i => (p i).pt, ev⟩
theorem ft_not (h : FT Γ X W M a f) : FT Γ X W M (.UnaryOp .Not a pos) (gNot f) := by
  obtain ⟨t, p, ev⟩ := h.ex
  exact ⟨_, fun i => pt_not (p i), ev_not ev⟩
/-- and, or, not as values of truths -/
def gBl (f : Ev0 → Res Bool) : Ev0 → Res D := fun ρ => (f ρ).bind fun c => .ok (.bl c)
def gAndV (f g : Ev0 → Res D) : Ev0 → Res D := fun ρ => (gT f ρ).bind fun c => if c = true then g ρ else .ok (.bl false)
def gOrV (f g : Ev0 → Res D) : Ev0 → Res D := fun ρ => (gT f ρ).bind fun c => if c = true then .ok (.bl true) else g ρ
def gNotV (f : Ev0 → Res D) : Ev0 → Res D := fun ρ => (gT f ρ).bind fun c => .ok (.bl (!c))
variable {ga gb : Ev0 → Res D}
theorem fe_one {op : BoolOp} (h : FE Γ X W M a k ga) : FE Γ X W M (.BoolOp op [a] pos) k ga := by
  obtain ⟨t, p, ev⟩ := h.ex
  exact ⟨_, fun i => pe_one (p i), ev⟩
theorem fe_and (h : FE Γ X W M a ka ga) (hb : FE Γ X W M (.BoolOp .And (b :: rest) pos) .sh gb) : FE Γ X W M (.BoolOp .And (a :: b :: rest) pos) .sh (gAndV ga gb) := by
  obtain ⟨t, p, ev⟩ := h.ex
  obtain ⟨u, q, ew⟩ := hb.ex
  refine ⟨_, fun i => pe_and (p i) (q i), fun F0 H0 F H σ ρ Q E hp => ?_⟩
  refine ev_test ev F0 H0 F H σ ρ (fun c H1 => if c = true then u σ H1 Q else Q (.bl false) H1) E ?_
  unfold gAndV at hp
  cases h : gT ga ρ with
  | ok c =>
    rw [h] at hp
    intro F1 H1 x e1 r1
    subst r1
    cases x with
    | true => exact ew F0 H0 F1 H1 σ ρ Q (E.extend e1) (PostG.mono RE.mono e1 hp)
    | false => exact hp F1 H1 _ e1 (.bl false)
  | ex c => rw [h] at hp; exact hp
  | no => rw [h] at hp; exact hp
theorem fe_or (h : FE Γ X W M a ka ga) (hb : FE Γ X W M (.BoolOp .Or (b :: rest) pos) .sh gb) : FE Γ X W M (.BoolOp .Or (a :: b :: rest) pos) .sh (gOrV ga gb) := by
  obtain ⟨t, p, ev⟩ := h.ex
  obtain ⟨u, q, ew⟩ := hb.ex
  refine ⟨_, fun i => pe_or (p i) (q i), fun F0 H0 F H σ ρ Q E hp => ?_⟩
  refine ev_test ev F0 H0 F H σ ρ (fun c H1 => if c = true then Q (.bl true) H1 else u σ H1 Q) E ?_
  unfold gOrV at hp
  cases h : gT ga ρ with
  | ok c =>
    rw [h] at hp
    intro F1 H1 x e1 r1
    subst r1
    cases x with
    | false => exact ew F0 H0 F1 H1 σ ρ Q (E.extend e1) (PostG.mono RE.mono e1 hp)
    | true => exact hp F1 H1 _ e1 (.bl true)
  | ex c => rw [h] at hp; exact hp
  | no => rw [h] at hp; exact hp
theorem fe_not (h : FE Γ X W M a ka ga) : FE Γ X W M (.UnaryOp .Not a pos) .sh (gNotV ga) := by
  obtain ⟨t, p, ev⟩ := h.ex
  refine ⟨_, fun i => pe_not (p i), fun F0 H0 F H σ ρ Q E hp => ?_⟩
  refine ev_test ev F0 H0 F H σ ρ (fun c H1 => Q (.bl (!c)) H1) E ?_
  unfold gNotV at hp
  cases h : gT ga ρ with
  | ok c =>
    rw [h] at hp
    intro F1 H1 x e1 r1
    subst r1
    exact hp F1 H1 _ e1 (.bl _)
  | ex c => rw [h] at hp; exact hp
  | no => rw [h] at hp; exact hp
/-- a if t else b -/
def gIf (f : Ev0 → Res Bool) (ga gb : Ev0 → Res D) : Ev0 → Res D := fun ρ => (f ρ).bind fun c => if c = true then ga ρ else gb ρ
theorem fe_if (h : FT Γ X W M c f) (ha : FE Γ X W M a k ga) (hb : FE Γ X W M b k gb) : FE Γ X W M (.IfExp c a b pos) k (gIf f ga gb) := by
  obtain ⟨t, p, ev⟩ := h.ex
  obtain ⟨ta, pa, ea⟩ := ha.ex
  obtain ⟨tb, pb, eb⟩ := hb.ex
  refine ⟨_, fun i => pe_ifExp (p i) (pa i) (pb i), fun F0 H0 F H σ ρ Q E hp => ?_⟩
  show t σ H _
  refine EvG.bind ev RE.mono E hp fun c F1 H1 x e1 E1 r1 hp1 => ?_
  subst r1
  cases x with
  | true => exact ea F0 H0 F1 H1 σ ρ Q E1 hp1
  | false => exact eb F0 H0 F1 H1 σ ρ Q E1 hp1
/-- a < b < c -/
def gChain (ga gb gc : Ev0 → Res D) (o o' : D → D → Res D) : Ev0 → Res D := fun ρ => (ga ρ).bind fun a => (gb ρ).bind fun b => (o a b).bind fun z => (asB z).bind fun k => if k = true then (gc ρ).bind fun c => o' b c else .ok (.bl false)
theorem ev_chain {r r' : R2} {o o' : D → D → Res D} {ta tb tc : TE} {ga gb gc : Ev0 → Res D} (ho : OpS Γ r ka kb .sh o) (ho' : OpS Γ r' kb kc .sh o') (ha : EvG Γ W M ta (RE Γ ka) ga) (hb : EvG Γ W M tb (RE Γ kb) gb) (hc : EvG Γ W M tc (RE Γ kc) gc) :
    EvG Γ W M (tChain r r' ta tb tc) (RE Γ .sh) (gChain ga gb gc o o') := fun F0 H0 F H σ ρ Q E hp => by
  show ta σ H _
  refine EvG.bind ha RE.mono E hp fun da F1 H1 x e1 E1 r1 hp1 => ?_
  refine EvG.bind hb RE.mono E1 hp1 fun db F2 H2 y e2 E2 r2 hp2 => ?_
  refine ho W F2 H2 σ _ x y da db E2.same ((OwnR.rel r1).ext e2) (OwnR.rel r2) ?_
  cases h : o da db with
  | ok z =>
    rw [h] at hp2
    intro F3 H3 v e3 rz
    have hp2 : PostG Γ W F2 H2 σ (RE Γ .sh) ((asB z).bind fun k => if k = true then (gc ρ).bind fun c => o' db c else .ok (.bl false)) Q := hp2
    cases hb : asB z with
    | ok k =>
      rw [hb] at hp2
      refine ⟨k, Rep.bl_inv rz hb, ?_⟩
      cases k with
      | false => exact hp2 F3 H3 _ e3 (.bl false)
      | true =>
        show tc σ H3 _
        refine EvG.bind hc RE.mono (E2.extend e3) (PostG.mono RE.mono e3 hp2) fun dc F4 H4 w e4 E4 r4 hp4 => ?_
        exact ho' W F4 H4 σ Q y w db dc E4.same (((OwnR.rel r2).ext e3).ext e4) (OwnR.rel r4) hp4
    | ex c => cases z <;> cases hb
    | no => rw [hb] at hp2; exact hp2.elim
  | ex c => rw [h] at hp2; exact hp2
  | no => rw [h] at hp2; exact hp2.elim
theorem fe_chain {op op' : CmpOp} {r r' : Gx → R2} {o o' : D → D → Res D} {ga gb gc : Ev0 → Res D} (ho : ∀ i, OpR (X i) (compareOp op) (r Γ)) (hs : OpS Γ (r Γ) ka kb .sh o) (ho' : ∀ i, OpR (X i) (compareOp op') (r' Γ)) (hs' : OpS Γ (r' Γ) kb kc .sh o')
    (ha : FE Γ X W M a ka ga) (hb : FE Γ X W M b kb gb) (hc : FE Γ X W M c kc gc) (hm : lastMarks [op, op'] [b, c] = false := by with_unfolding_all rfl) : FE Γ X W M (.Compare a [op, op'] [b, c] pos) .sh (gChain ga gb gc o o') := by
  obtain ⟨ta, pa, ea⟩ := ha.ex
  obtain ⟨tb, pb, eb⟩ := hb.ex
  obtain ⟨tc, pc, ec⟩ := hc.ex
  exact ⟨_, fun i => pe_chain (ho i) (ho' i) (pa i) (pb i) (pc i) hm, ev_chain hs hs' ea eb ec⟩
theorem ft_chain {op op' : CmpOp} {r r' : Gx → R2} {o o' : D → D → Res D} {ga gb gc : Ev0 → Res D} (ho : ∀ i, OpR (X i) (compareOp op) (r Γ)) (hs : OpS Γ (r Γ) ka kb .sh o) (ho' : ∀ i, OpR (X i) (compareOp op') (r' Γ)) (hs' : OpS Γ (r' Γ) kb kc .sh o')
    (ha : FE Γ X W M a ka ga) (hb : FE Γ X W M b kb gb) (hc : FE Γ X W M c kc gc) (hm : lastMarks [op, op'] [b, c] = false := by with_unfolding_all rfl) : FT Γ X W M (.Compare a [op, op'] [b, c] pos) (gT (gChain ga gb gc o o')) := by
  obtain ⟨ta, pa, ea⟩ := ha.ex
  obtain ⟨tb, pb, eb⟩ := hb.ex
  obtain ⟨tc, pc, ec⟩ := hc.ex
  exact ⟨_, fun i => pt_chain (ho i) (ho' i) (pa i) (pb i) (pc i) hm, ev_test (ev_chain hs hs' ea eb ec)⟩
/-! ### argument lists, displays -/
def gNil : Ev0 → Res (List D) := fun _ => .ok []
def gCons (g : Ev0 → Res D) (gs : Ev0 → Res (List D)) : Ev0 → Res (List D) := fun ρ => (g ρ).bind fun a => (gs ρ).bind fun r => .ok (a :: r)
theorem fa_nil : FA Γ X W M [] gNil := ⟨_, fun _ => pa_nil, fun F0 H0 F H σ ρ Q E hp => hp F H _ (Ext.refl E.same) .nil⟩
theorem fa_cons {es : List Expr} {gs : Ev0 → Res (List D)} (h : FE Γ X W M e .sh ga) (hr : FA Γ X W M es gs) (hs : ∀ i, starEach (e :: es) (X i).env = (false, eval e (X i).env) :: starEach es (X i).env) : FA Γ X W M (e :: es) (gCons ga gs) := by
  obtain ⟨t, p, ev⟩ := h.ex
  obtain ⟨u, q, ew⟩ := hr.ex
  refine ⟨_, fun i => pa_cons (p i) (q i) (hs i), fun F0 H0 F H σ ρ Q E hp => ?_⟩
  show t σ H _
  refine EvG.bind ev RA.mono E hp fun d F1 H1 x e1 E1 r1 hp1 => ?_
  refine EvG.bind ew RA.mono E1 hp1 fun ds F2 H2 xs e2 E2 r2 hp2 => ?_
  exact hp2 F2 H2 _ (Ext.refl E2.same) (.cons (Rep.mono e2.f r1) r2)
/-- one argument, whatever its kind -/
theorem pa_one {Y : Cx} {t : TE} (h : PE Y e t) (hs : starEach (e :: []) Y.env = (false, eval e Y.env) :: starEach [] Y.env) : PA Y [e] (tCons t tNil) := pa_cons h pa_nil hs
def gTup (gs : Ev0 → Res (List D)) : Ev0 → Res D := fun ρ => (gs ρ).bind fun ds => if ds.length ≤ sizeLine then .ok (.tup ds) else .no
def gLst (gs : Ev0 → Res (List D)) : Ev0 → Res D := fun ρ => (gs ρ).bind fun ds => if ds.length ≤ sizeLine then .ok (.lst ds) else .no
/-- a new tuple, with its object or without -/
def tTupA (t : TA) : TE := fun σ H Q => t σ H fun xs H1 => xs.length ≤ sizeLine ∧ ((∀ p, H1 p = none → Q (.ref p) (upd H1 p (.tup xs))) ∨ ∀ p (o : Obj), o.dict = none → H1 p = none → Q (.ref p) (upd H1 p (.frz o (.tup xs))))
theorem pe_tupA {Y : Cx} {es : List Expr} {t : TA} {x1 : Nat} (h : PA Y es t) : PE Y (.Tuple es x1 pos) (tTupA t) := by
  refine ⟨fun pins s σ H Q I hq => ?_⟩
  refine wpAny_Tuple_spliced (thn (h.run pos pins s σ H _ I hq) fun us s1 ⟨xs, H1, I1, r, z, q⟩ => ⟨by rw [← r.length]; exact z, ?_⟩)
  have hf : H1 s1.heap.objs.size = none := I1.hok.fresh (Nat.le_refl _)
  rcases q with q | q
  · refine ⟨.ref s1.heap.objs.size, upd H1 s1.heap.objs.size (.tup xs), I1.laid (t' := s1.toks) (fun b u e => Heap.get?_push_of_some _ e) (Nat.le_refl _) ?_, rfl, q _ hf⟩
    exact ⟨z, us, r, ⟨_, Heap.get?_push_size _ rfl, rfl, _, rfl⟩⟩
  · refine ⟨.ref s1.heap.objs.size, upd H1 s1.heap.objs.size (.frz { cls := .type "tuple", data := .seq us.toArray } (.tup xs)), I1.laid (t' := s1.toks) (fun b u e => Heap.get?_push_of_some _ e) (Nat.le_refl _) ?_, rfl, q _ _ rfl hf⟩
    exact ⟨Heap.get?_push_size _ rfl, z, us, r, ⟨_, Heap.get?_push_size _ rfl, rfl, _, rfl⟩⟩
/-- a new shared tuple -/
theorem tup_new {F H : Hp} {xs : List V} {ds : List D} {Q : V → Hp → Prop} {σ : L2.St} (s : Same F H) (r : RepL Γ F xs ds) (hp : ∀ F' H' v, Ext F H F' H' → Rep Γ F' v (.tup ds) → Q v H') :
    (∀ p, H p = none → Q (.ref p) (upd H p (.tup xs))) ∨ ∀ p (o : Obj), o.dict = none → H p = none → Q (.ref p) (upd H p (.frz o (.tup xs))) := by
  by_cases h : pairsO ds = none
  · exact .inl fun q hq => hp _ _ _ (Ext.new s hq) (.tup (.inl ⟨h, upd_same⟩) (r.mono (same_new (s.free hq))))
  · exact .inr fun q o ho hq => hp _ _ _ (Ext.new s hq) (.tup (.inr ⟨h, o, ho, upd_same⟩) (r.mono (same_new (s.free hq))))
theorem fe_tup {es : List Expr} {x1 : Nat} {gs : Ev0 → Res (List D)} (h : FA Γ X W M es gs) : FE Γ X W M (.Tuple es x1 pos) .sh (gTup gs) := by
  obtain ⟨t, p, ev⟩ := h.ex
  refine ⟨_, fun i => pe_tupA (p i), fun F0 H0 F H σ ρ Q E hp => ?_⟩
  show t σ H _
  refine EvG.bind ev RE.mono E hp fun ds F1 H1 xs e1 E1 r1 hp1 => ?_
  have r1 : RepL Γ F1 xs ds := r1
  by_cases hl : ds.length ≤ sizeLine
  · rw [if_pos hl] at hp1
    exact ⟨by rw [r1.length]; exact hl, tup_new (σ := σ) E1.same r1 hp1⟩
  · rw [if_neg hl] at hp1
    exact hp1.elim
theorem fe_lst {es : List Expr} {gs : Ev0 → Res (List D)} (h : FA Γ X W M es gs) : FE Γ X W M (.List es pos) .ow (gLst gs) := by
  obtain ⟨t, p, ev⟩ := h.ex
  refine ⟨_, fun i => pe_lst (p i), fun F0 H0 F H σ ρ Q E hp => ?_⟩
  show t σ H _
  refine EvG.bind ev RE.mono E hp fun ds F1 H1 xs e1 E1 r1 hp1 => ?_
  have r1 : RepL Γ F1 xs ds := r1
  by_cases hl : ds.length ≤ sizeLine
  · rw [if_pos hl] at hp1
    refine ⟨by rw [r1.length]; exact hl, fun q hq => ?_⟩
    exact hp1 _ _ _ (Ext.own E1.same hq) ⟨q, _, rfl, hq, E1.same.free hq, upd_same, .lst r1⟩
  · rw [if_neg hl] at hp1
    exact hp1.elim
/-! ### calls of built-ins, by values -/
def C1S (Γ : Gx) (r : List V → Hp → VK → Prop) (ka k : Kd) (op : D → Res D) : Prop :=
  ∀ W F H σ Q x a, Same F H → RelK Γ F H ka x a → PostG Γ W F H σ (RE Γ k) (op a) Q → r [x] H Q
def C2S (Γ : Gx) (r : List V → Hp → VK → Prop) (ka kb k : Kd) (op : D → D → Res D) : Prop :=
  ∀ W F H σ Q x y a b, Same F H → RelK Γ F H ka x a → RelK Γ F H kb y b → PostG Γ W F H σ (RE Γ k) (op a b) Q → r [x, y] H Q
theorem ev_cb1 {r : List V → Hp → VK → Prop} {op : D → Res D} {ta : TE} (ho : C1S Γ r ka k op) (ha : EvG Γ W M ta (RE Γ ka) ga) : EvG Γ W M (tCB r (tCons ta tNil)) (RE Γ k) (g1 ga op) := fun F0 H0 F H σ ρ Q E hp => by
  show ta σ H _
  refine EvG.bind ha RE.mono E hp fun da F1 H1 x e1 E1 r1 hp1 => ?_
  exact ho W F1 H1 σ Q x da E1.same (OwnR.rel r1) hp1
theorem ev_cb2 {r : List V → Hp → VK → Prop} {op : D → D → Res D} {ta tb : TE} (ho : C2S Γ r ka kb k op) (ha : EvG Γ W M ta (RE Γ ka) ga) (hb : EvG Γ W M tb (RE Γ kb) gb) : EvG Γ W M (tCB r (tCons ta (tCons tb tNil))) (RE Γ k) (g2 ga gb op) := fun F0 H0 F H σ ρ Q E hp => by
  show ta σ H _
  refine EvG.bind ha RE.mono E hp fun da F1 H1 x e1 E1 r1 hp1 => ?_
  show tb σ H1 _
  refine EvG.bind hb RE.mono E1 hp1 fun db F2 H2 y e2 E2 r2 hp2 => ?_
  exact ho W F2 H2 σ Q x y da db E2.same ((OwnR.rel r1).ext e2) (OwnR.rel r2) hp2
/-- f(e), f a built-in function -/
theorem fe_cb1 {x : Str} {id : String} {p : Pos} {r : Gx → List V → Hp → VK → Prop} {op : D → Res D} (hc : ∀ i, CallR (X i) (.builtin id) (r Γ)) (hs : C1S Γ (r Γ) ka k op) (hg : ∀ i, Gl (X i) x) (hm : ∀ i, (X i).mg x = none) (hv : bootBuiltins x = some (.builtin id)) (ha : FE Γ X W M e ka ga)
    (he : ∀ i, starEach (e :: []) (X i).env = (false, eval e (X i).env) :: starEach [] (X i).env) (hpl : ∀ i, (backTo pos (starEach [] (X i).env)).any (·.1) = false) (hn : x ≠ "__name__" := by decide) (hdb : (x == ("__debug__" : Str)) = false := by decide) :
    FE Γ X W M (.Call (.Name x p) [e] [] pos) k (g1 ga op) := by
  obtain ⟨t, pe, ev⟩ := ha.ex
  exact ⟨_, fun i => pe_callB (hc i) (hg i) (hm i) hv (pa_one (pe i) (he i)) hn hdb (he i) (hpl i), ev_cb1 hs ev⟩
theorem fe_ct1 {x : Str} {T : String} {p : Pos} {r : Gx → List V → Hp → VK → Prop} {op : D → Res D} (hc : ∀ i, CallR (X i) (.type T) (r Γ)) (hs : C1S Γ (r Γ) ka k op) (hg : ∀ i, Gl (X i) x) (hm : ∀ i, (X i).mg x = none) (hv : bootBuiltins x = some (.type T)) (ha : FE Γ X W M e ka ga)
    (he : ∀ i, starEach (e :: []) (X i).env = (false, eval e (X i).env) :: starEach [] (X i).env) (hpl : ∀ i, (backTo pos (starEach [] (X i).env)).any (·.1) = false) (hn : x ≠ "__name__" := by decide) (hdb : (x == ("__debug__" : Str)) = false := by decide) :
    FE Γ X W M (.Call (.Name x p) [e] [] pos) k (g1 ga op) := by
  obtain ⟨t, pe, ev⟩ := ha.ex
  exact ⟨_, fun i => pe_callTy (hc i) (hg i) (hm i) hv (pa_one (pe i) (he i)) hn hdb (he i) (hpl i), ev_cb1 hs ev⟩
theorem fe_cb2 {x : Str} {id : String} {p : Pos} {r : Gx → List V → Hp → VK → Prop} {op : D → D → Res D} (hc : ∀ i, CallR (X i) (.builtin id) (r Γ)) (hs : C2S Γ (r Γ) ka kb k op) (hg : ∀ i, Gl (X i) x) (hm : ∀ i, (X i).mg x = none) (hv : bootBuiltins x = some (.builtin id)) (ha : FE Γ X W M a ka ga) (hb : FE Γ X W M b kb gb)
    (he : ∀ i, starEach (a :: [b]) (X i).env = (false, eval a (X i).env) :: starEach [b] (X i).env) (he2 : ∀ i, starEach (b :: []) (X i).env = (false, eval b (X i).env) :: starEach [] (X i).env) (hpl : ∀ i, (backTo pos (starEach [b] (X i).env)).any (·.1) = false) (hn : x ≠ "__name__" := by decide) (hdb : (x == ("__debug__" : Str)) = false := by decide) :
    FE Γ X W M (.Call (.Name x p) [a, b] [] pos) k (g2 ga gb op) := by
  obtain ⟨t, pe, ev⟩ := ha.ex
  obtain ⟨u, qe, ew⟩ := hb.ex
  exact ⟨_, fun i => pe_callB (hc i) (hg i) (hm i) hv (pa_cons (pe i) (pa_one (qe i) (he2 i)) (he i)) hn hdb (he i) (hpl i), ev_cb2 hs ev ew⟩
/-! ### a def's promise, its call -/
/-- called with the data ds it gives g ds; what it gives is of the kind k -/
def spF (Γ : Gx) (n : Nat) (k : Kd) (g : List D → Res D) : Sp := fun vs H Q E => ∃ F ds, Same F H ∧ RepL Γ F vs ds ∧ ds.length = n ∧ PostG Γ (fun cls d _ H' => E cls d H') F H [] (RE Γ k) (g ds) Q
def gCall (g : List D → Res D) (gs : Ev0 → Res (List D)) : Ev0 → Res D := fun ρ => (gs ρ).bind fun ds => g ds
theorem ev_call {n : Nat} {g : List D → Res D} {gs : Ev0 → Res (List D)} {t : TA} (hn : ∀ ρ ds, gs ρ = .ok ds → ds.length = n) (ha : EvG Γ W M t (RA Γ) gs) : EvG Γ W M (tCallS (spF Γ n k g) (WE W) t) (RE Γ k) (gCall g gs) := fun F0 H0 F H σ ρ Q E hp => by
  show t σ H _
  unfold gCall at hp
  refine ha F0 H0 F H σ ρ _ E ?_
  cases h : gs ρ with
  | ok ds =>
    rw [h] at hp
    intro F1 H1 vs e1 r1
    refine ⟨F1, ds, e1.i, r1, hn ρ ds h, ?_⟩
    have q := PostG.mono RE.mono e1 hp
    show PostG Γ (fun cls d _ H' => W cls d σ H') F1 H1 [] (RE Γ k) (g ds) Q
    cases hg : g ds with
    | ok d =>
      have q : PostG Γ W F1 H1 σ (RE Γ k) (g ds) Q := q
      rw [hg] at q
      exact q
    | ex c =>
      have q : PostG Γ W F1 H1 σ (RE Γ k) (g ds) Q := q
      rw [hg] at q
      exact q
    | no =>
      have q : PostG Γ W F1 H1 σ (RE Γ k) (g ds) Q := q
      rw [hg] at q
      exact q
  | ex c => rw [h] at hp; exact hp
  | no => rw [h] at hp; exact hp
theorem len_nil : ∀ ρ ds, gNil ρ = .ok ds → ds.length = 0 := fun ρ ds h => by cases h; rfl
theorem len_cons {n : Nat} {gs : Ev0 → Res (List D)} (h : ∀ ρ ds, gs ρ = .ok ds → ds.length = n) : ∀ ρ ds, gCons ga gs ρ = .ok ds → ds.length = n + 1 := fun ρ ds e => by
  unfold gCons at e
  cases h1 : ga ρ with
  | ok a =>
    rw [h1] at e
    cases h2 : gs ρ with
    | ok r =>
      have e : (gs ρ).bind (fun r => Res.ok (a :: r)) = .ok ds := e
      rw [h2] at e
      have e : Res.ok (a :: r) = .ok ds := e
      cases e
      exact congrArg (· + 1) (h ρ r h2)
    | ex c =>
      have e : (gs ρ).bind (fun r => Res.ok (a :: r)) = .ok ds := e
      rw [h2] at e; cases e
    | no =>
      have e : (gs ρ).bind (fun r => Res.ok (a :: r)) = .ok ds := e
      rw [h2] at e; cases e
  | ex c => rw [h1] at e; cases e
  | no => rw [h1] at e; cases e
/-- f(e, ..), f a def of the text -/
theorem fe_call {n kk : Nat} {f : Addr} {fd : FuncData} {ps : List Str} {x : Str} {p : Pos} {es : List Expr} {g : List D → Res D} {gs : Ev0 → Res (List D)}
    (F : ∀ i, FnOk (X i).prog (X i).w (X i).K (X i).mg (X i).base (L2.CX (X i).prog (X i).w) kk f fd ps (spF Γ n k g)) (hr : ∀ i, Room kk (X i).A) (hg : ∀ i, Gl (X i) x) (hm : ∀ i, (X i).mg x = some (.ref f)) (hk : ∀ i, PySem.W.keepIn (X i).K (.ref f) = true) (hb : ∀ i, Binds (X i).K fd ps [])
    (tk : ∀ i, Takes (X i) W) (hn : ∀ ρ ds, gs ρ = .ok ds → ds.length = n) (ha : FA Γ X W M (e :: es) gs) (he : ∀ i, starEach (e :: es) (X i).env = (false, eval e (X i).env) :: starEach es (X i).env) (hpl : ∀ i, (backTo pos (starEach es (X i).env)).any (·.1) = false) (hdb : (x == ("__debug__" : Str)) = false := by decide) :
    FE Γ X W M (.Call (.Name x p) (e :: es) [] pos) k (gCall g gs) := by
  obtain ⟨t, pe, ev⟩ := ha.ex
  exact ⟨_, fun i => pe_callS (F i) (hr i) (hg i) (hm i) (hk i) (hb i) (fun σ => passAt (tk i) σ) (pe i) hdb (he i) (hpl i), ev_call hn ev⟩
end
end FL
namespace FL
open PySem PySem.Spec PyProof.Rows L2
variable {Γ : Gx}
/-! ### whole numbers -/
def intOp (C : Int → Int → Bool) (f : Int → Int → D) : D → D → Res D
  | .int i, .int j => if C i j = true then .ok (f i j) else .no
  | _, _ => .no
theorem Rep.int_inv {F : Hp} {v : V} {i : Int} (h : Rep Γ F v (.int i)) : v = .int i := by cases h; rfl
theorem Rep.str_inv {F : Hp} {v : V} {i : Str} (h : Rep Γ F v (.str i)) : v = .str i := by cases h; rfl
theorem Rep.non_inv {F : Hp} {v : V} (h : Rep Γ F v .non) : v = .non := by cases h; rfl
theorem os_int {C : Int → Int → Prop} {c : Int → Int → Bool} {fv : Int → Int → V} {f : Int → Int → D} (hc : ∀ i j, c i j = true → C i j) (hf : ∀ F i j, Rep Γ F (fv i j) (f i j)) : OpS Γ (rI C fv) .ob .ob .sh (intOp c f) := fun W F H σ Q x y a b s ra rb hp => by
  unfold intOp at hp
  split at hp
  · rename_i i j
    split at hp
    · rename_i h
      exact ⟨i, j, Rep.int_inv ra, Rep.int_inv rb, hc i j h, hp F H _ (Ext.refl s) (hf _ _ _)⟩
    · exact hp.elim
  · exact hp.elim
theorem os_int0 {fv : Int → Int → V} {f : Int → Int → D} (hf : ∀ F i j, Rep Γ F (fv i j) (f i j)) : OpS Γ (rI0 fv) .ob .ob .sh (intOp (fun _ _ => true) f) := fun W F H σ Q x y a b s ra rb hp => by
  unfold intOp at hp
  split at hp
  · rename_i i j
    exact ⟨i, j, Rep.int_inv ra, Rep.int_inv rb, hp F H _ (Ext.refl s) (hf _ _ _)⟩
  · exact hp.elim
def subD := intOp (fun _ _ => true) fun i j => .int (i - j)
def mulOk (i j : Int) : Bool := decide (-(2 ^ 64) < i ∧ i < 2 ^ 64) || decide (-(2 ^ 64) < j ∧ j < 2 ^ 64) || decide (i.natAbs.log2 + j.natAbs.log2 < 1000000)
def mulD := intOp mulOk fun i j => .int (i * j)
def divOk (_ j : Int) : Bool := decide (0 < j ∧ j.natAbs.log2 < 9000)
def fdivD := intOp divOk fun i j => .int (i / j)
def modD := intOp (fun _ j => decide (0 < j)) fun i j => .int (i % j)
def powOk (i j : Int) : Bool := decide (0 ≤ j ∧ j ≤ 1000000 ∧ i.natAbs < 2 ^ 64)
def powD := intOp powOk fun i j => .int (i ^ j.toNat)
def shlD := intOp powOk fun i j => .int (i * 2 ^ j.toNat)
def shrD := intOp (fun _ j => decide (0 ≤ j)) fun i j => .int (i / 2 ^ j.toNat)
def andD := intOp (fun _ _ => true) fun i j => .int (Builtin.bitAnd i j)
def orD := intOp (fun _ _ => true) fun i j => .int (Builtin.bitOr i j)
def ltD := intOp (fun _ _ => true) fun i j => .bl (decide (i < j))
def leD := intOp (fun _ _ => true) fun i j => .bl (decide (i ≤ j))
def gtD := intOp (fun _ _ => true) fun i j => .bl (decide (j < i))
def geD := intOp (fun _ _ => true) fun i j => .bl (decide (j ≤ i))
theorem op_mulA {X : Cx} : OpR X (binaryOp .Mult) (rI (fun i j => CMul i j ∨ CMulW i j) fun i j => .int (i * j)) := opI fun _ _ _ _ _ _ _ hc q => by
  rcases hc with h | h
  · exact mul_int q h.ok
  · exact mul_int q h.ok
section
variable {ι : Type} {X : ι → Cx} {W : WX} {M : List Nat} {a b : Expr} {ka kb : Kd} {pos : Pos} {ga gb : Ev0 → Res D}
theorem fe_sub (ha : FE Γ X W M a ka ga) (hb : FE Γ X W M b kb gb) : FE Γ X W M (.BinOp a .Sub b pos) .sh (g2 ga gb subD) := fe_bin (r := fun _ => _) (fun _ => op_sub) (os_int0 fun _ _ _ => .int _) ha.ob hb.ob
theorem fe_mul (ha : FE Γ X W M a ka ga) (hb : FE Γ X W M b kb gb) : FE Γ X W M (.BinOp a .Mult b pos) .sh (g2 ga gb mulD) := fe_bin (r := fun _ => _) (fun _ => op_mulA) (os_int (fun i j h => by
  unfold mulOk at h
  simp only [Bool.or_eq_true, decide_eq_true_eq] at h
  rcases h with (h | h) | h
  · exact .inl (.inl h)
  · exact .inl (.inr h)
  · exact .inr h) fun _ _ _ => .int _) ha.ob hb.ob
theorem fe_fdiv (ha : FE Γ X W M a ka ga) (hb : FE Γ X W M b kb gb) : FE Γ X W M (.BinOp a .FloorDiv b pos) .sh (g2 ga gb fdivD) := fe_bin (r := fun _ => _) (fun _ => op_fdivW) (os_int (fun i j h => by
  unfold divOk at h
  simpa [CDivW] using h) fun _ _ _ => .int _) ha.ob hb.ob
theorem fe_mod (ha : FE Γ X W M a ka ga) (hb : FE Γ X W M b kb gb) : FE Γ X W M (.BinOp a .Mod b pos) .sh (g2 ga gb modD) := fe_bin (r := fun _ => _) (fun _ => op_mod) (os_int (fun i j h => of_decide_eq_true h) fun _ _ _ => .int _) ha.ob hb.ob
theorem fe_pow (ha : FE Γ X W M a ka ga) (hb : FE Γ X W M b kb gb) : FE Γ X W M (.BinOp a .Pow b pos) .sh (g2 ga gb powD) := fe_bin (r := fun _ => _) (fun _ => op_pow) (os_int (fun i j h => by
  unfold powOk at h
  simpa [CPow] using h) fun _ _ _ => .int _) ha.ob hb.ob
theorem fe_shl (ha : FE Γ X W M a ka ga) (hb : FE Γ X W M b kb gb) : FE Γ X W M (.BinOp a .LShift b pos) .sh (g2 ga gb shlD) := fe_bin (r := fun _ => _) (fun _ => op_shl) (os_int (fun i j h => by
  unfold powOk at h
  simpa [CPow] using h) fun _ _ _ => .int _) ha.ob hb.ob
theorem fe_shr (ha : FE Γ X W M a ka ga) (hb : FE Γ X W M b kb gb) : FE Γ X W M (.BinOp a .RShift b pos) .sh (g2 ga gb shrD) := fe_bin (r := fun _ => _) (fun _ => op_shr) (os_int (fun i j h => of_decide_eq_true h) fun _ _ _ => .int _) ha.ob hb.ob
theorem fe_band (ha : FE Γ X W M a ka ga) (hb : FE Γ X W M b kb gb) : FE Γ X W M (.BinOp a .BitAnd b pos) .sh (g2 ga gb andD) := fe_bin (r := fun _ => _) (fun _ => op_and) (os_int0 fun _ _ _ => .int _) ha.ob hb.ob
theorem fe_bor (ha : FE Γ X W M a ka ga) (hb : FE Γ X W M b kb gb) : FE Γ X W M (.BinOp a .BitOr b pos) .sh (g2 ga gb orD) := fe_bin (r := fun _ => _) (fun _ => op_or) (os_int0 fun _ _ _ => .int _) ha.ob hb.ob
def negD : D → Res D
  | .int i => .ok (.int (-i))
  | _ => .no
theorem fe_neg (ha : FE Γ X W M a ka ga) : FE Γ X W M (.UnaryOp .USub a pos) .sh (g1 ga negD) := by
  obtain ⟨t, p, ev⟩ := ha.ob.ex
  refine ⟨_, fun i => pe_un un_neg (p i), fun F0 H0 F H σ ρ Q E hp => ?_⟩
  show t σ H _
  refine EvG.bind ev RE.mono E hp fun d F1 H1 x e1 E1 r1 hp1 => ?_
  unfold negD at hp1
  split at hp1
  · exact ⟨_, Rep.int_inv r1, hp1 F1 H1 _ (Ext.refl E1.same) (.int _)⟩
  · exact hp1.elim
end
/-! ### + -/
/-- + of whole numbers, texts, tuples -/
def addD : D → D → Res D
  | .int i, .int j => .ok (.int (i + j))
  | .str i, .str j => if i.length + j.length ≤ sizeLine then .ok (.str (i ++ j)) else .no
  | .tup xs, .tup ys => if xs.length + ys.length ≤ sizeLine then .ok (.tup (xs ++ ys)) else .no
  | _, _ => .no
/-- + of lists -/
def catD : D → D → Res D
  | .lst xs, .lst ys => if xs.length + ys.length ≤ sizeLine then .ok (.lst (xs ++ ys)) else .no
  | _, _ => .no
/-- t + u -/
def rCatB (K : PySem.W.Frag) : R2 := fun x y H Q => ∃ a b xs ys, x = .ref a ∧ y = .ref b ∧ SqT K H a xs ∧ SqT K H b ys ∧ xs.length + ys.length ≤ sizeLine ∧
  (xs = [] → Q (.ref b) H) ∧ (xs ≠ [] → ys = [] → Q (.ref a) H) ∧ (xs ≠ [] → ys ≠ [] → (∀ p, H p = none → Q (.ref p) (upd H p (.tup (xs ++ ys)))) ∨ ∀ p (o : Obj), o.dict = none → H p = none → Q (.ref p) (upd H p (.frz o (.tup (xs ++ ys)))))
theorem op_catB {X : Cx} : OpR X (binaryOp .Add) (rCatB X.K) := by
  intro pins s σ H x y v u Q I rx ry h
  obtain ⟨a, b, xs, ys, rfl, rfl, ha, hb, hz, q0, q1, q2⟩ := h
  by_cases hx : xs = []
  · subst hx
    cases rx
    cases ry
    obtain ⟨its, r1, p1, _⟩ := I.tuple ha
    obtain ⟨its2, r2, p2, _⟩ := I.tuple hb
    cases r1
    exact cat_tup0 p1 p2 ⟨.ref b, H, I, rfl, q0 rfl⟩
  · by_cases hy : ys = []
    · exact op_catT pins s σ H _ _ v u Q I rx ry ⟨a, b, xs, ys, rfl, rfl, ha, hb, hx, hz, q1 hx, fun h => absurd hy h⟩
    · cases rx
      cases ry
      obtain ⟨its, r1, p1, _⟩ := I.tuple ha
      obtain ⟨its2, r2, p2, _⟩ := I.tuple hb
      refine HT.cat_tup p1 p2 (fun z => hx (r1.nil_iff.mp z)) (fun z => absurd (r2.nil_iff.mp z) hy) (fun z => ?_) (by rw [← r1.length, ← r2.length]; exact hz)
      rcases q2 hx hy with q2 | q2
      · refine ⟨.ref s.heap.objs.size, _, I.laid (t' := s.toks) (o := .tup (xs ++ ys)) (fun b ob q => Heap.get?_push_of_some _ q) (Nat.le_refl _) ?_, rfl, q2 _ (I.hok.fresh (Nat.le_refl _))⟩
        exact ⟨by rw [List.length_append]; exact hz, _, r1.append r2, IsTup.new _ _⟩
      · refine ⟨.ref s.heap.objs.size, _, I.laid (t' := s.toks) (o := .frz _ (.tup (xs ++ ys))) (fun b ob q => Heap.get?_push_of_some _ q) (Nat.le_refl _) ⟨Heap.get?_push_size _ rfl, ?_⟩, rfl, q2 _ _ ?_ (I.hok.fresh (Nat.le_refl _))⟩
        · exact ⟨by rw [List.length_append]; exact hz, _, r1.append r2, IsTup.new _ _⟩
        · rfl
def rAddA (Γ : Gx) : R2 := fun x y H Q => (∃ i j, x = .int i ∧ y = .int j ∧ Q (.int (i + j)) H) ∨ (∃ i j, x = .str i ∧ y = .str j ∧ i.length + j.length ≤ sizeLine ∧ Q (.str (i ++ j)) H) ∨ rCatB Γ.K x y H Q
theorem op_addA {X : Cx} (h : X.K = Γ.K) : OpR X (binaryOp .Add) (rAddA Γ) := by
  intro pins s σ H x y v u Q I rx ry hh
  rcases hh with hh | hh | hh
  · exact op_add pins s σ H x y v u Q I rx ry hh
  · exact op_add_str pins s σ H x y v u Q I rx ry hh
  · rw [← h] at hh
    exact op_catB pins s σ H x y v u Q I rx ry hh
theorem os_add : OpS Γ (rAddA Γ) .sh .sh .sh addD := fun W F H σ Q x y a b s ra rb hp => by
  unfold addD at hp
  split at hp
  · exact .inl ⟨_, _, Rep.int_inv ra, Rep.int_inv rb, hp F H _ (Ext.refl s) (.int _)⟩
  · split at hp
    · rename_i h
      exact .inr (.inl ⟨_, _, Rep.str_inv ra, Rep.str_inv rb, h, hp F H _ (Ext.refl s) (.str _)⟩)
    · exact hp.elim
  · rename_i ds es
    split at hp
    · rename_i h
      refine .inr (.inr ?_)
      have ra : Rep Γ F x (.tup ds) := ra
      have rb : Rep Γ F y (.tup es) := rb
      cases ra with
      | tup h1 r1 =>
        rename_i p xs
        cases rb with
        | tup h2 r2 =>
          rename_i q ys
          refine ⟨p, q, xs, ys, rfl, rfl, (h1.mono s).seqT, (h2.mono s).seqT, by rw [r1.length, r2.length]; exact h, ?_⟩
          refine ⟨fun e => ?_, fun e1 e2 => ?_, fun e1 e2 => ?_⟩
          · subst e
            cases r1
            exact hp F H _ (Ext.refl s) (.tup h2 r2)
          · subst e2
            cases r2
            rw [List.append_nil] at hp
            exact hp F H _ (Ext.refl s) (.tup h1 r1)
          · exact tup_new (σ := σ) s (r1.append r2) hp
    · exact hp.elim
  · exact hp.elim
section
variable {ι : Type} {X : ι → Cx} {W : WX} {M : List Nat} {a b e : Expr} {k ka kb : Kd} {pos : Pos} {ga gb : Ev0 → Res D}
theorem fe_add (A : Amb Γ X) (ha : FE Γ X W M a .sh ga) (hb : FE Γ X W M b .sh gb) : FE Γ X W M (.BinOp a .Add b pos) .sh (g2 ga gb addD) := fe_bin (r := rAddA) (fun i => op_addA (A.K i)) os_add ha hb
/-- + of lists -/
theorem lstR {Y : Cx} {pins : List (Addr × Obj)} {σ : L2.St} {H : Hp} {s : Shared} {l : Addr} {xs : List V} (I : Inv Y pins σ H s) (hH : Rd H l (.lst xs)) : xs.length ≤ sizeLine ∧ ∃ (its : List Value) (n : Nat), Vals xs its ∧ xs.length = its.length ∧ s.heap.get? l = some { cls := .type "list", data := .seq its.toArray n } := by
  obtain ⟨z, its, n, r, e⟩ := hH.ok I.hok
  exact ⟨z, its, n, r, r.length, e⟩
def rCatR : R2 := fun x y H Q => ∃ l b xs zs, x = .ref l ∧ y = .ref b ∧ Rd H l (.lst xs) ∧ Rd H b (.lst zs) ∧ xs.length + zs.length ≤ sizeLine ∧ ∀ p, H p = none → Q (.ref p) (upd H p (.lst (xs ++ zs)))
theorem op_catR {Y : Cx} : OpR Y (binaryOp .Add) rCatR := by
  intro pins s σ H x y v u Q I rx ry h
  obtain ⟨l, b, xs, zs, rfl, rfl, hH, hB, hz, q⟩ := h
  cases rx
  cases ry
  obtain ⟨z, its, n, r, hl, e⟩ := lstR I hH
  obtain ⟨z2, its2, n2, r2, hl2, e2⟩ := lstR I hB
  refine PySem.P.add_list e e2 ?_ (by rw [List.size_toArray, List.size_toArray]; omega)
  have ea : its.toArray ++ its2.toArray = (its ++ its2).toArray := by simp
  rw [ea]
  exact ⟨.ref _, _, I.lnew (t' := s.toks) (r.append r2) (by rw [List.length_append]; omega), rfl, q _ I.fresh⟩
/-- the top of a list: where it stands, its items shared -/
theorem Rep1.lst {F H : Hp} (s : Same F H) {v : V} {ds : List D} (h : Rep1 Γ F H v (.lst ds)) : ∃ p xs, v = .ref p ∧ Rd H p (.lst xs) ∧ RepL Γ F xs ds := by
  cases h with
  | sc r =>
    cases r with
    | lst h r => exact ⟨_, _, rfl, .inl (s _ _ h), r⟩
  | ow e h =>
    cases h with
    | lst r => exact ⟨_, _, rfl, .inl e, r⟩
theorem Rep1.tup {F H : Hp} (s : Same F H) {v : V} {ds : List D} (h : Rep1 Γ F H v (.tup ds)) : ∃ p xs, v = .ref p ∧ SqT Γ.K H p xs ∧ RepL Γ F xs ds := by
  cases h with
  | sc r =>
    cases r with
    | tup h r => exact ⟨_, _, rfl, (h.mono s).seqT, r⟩
  | ow e h => cases h
theorem os_cat : OpS Γ rCatR .ov .ov .ow catD := fun W F H σ Q x y a b s ra rb hp => by
  unfold catD at hp
  split at hp
  · split at hp
    · rename_i ds es h
      obtain ⟨p, xs, rfl, h1, r1⟩ := Rep1.lst s ra
      obtain ⟨q, ys, rfl, h2, r2⟩ := Rep1.lst s rb
      refine ⟨p, q, xs, ys, rfl, rfl, h1, h2, by rw [r1.length, r2.length]; exact h, fun p' hn => ?_⟩
      exact hp _ _ _ (Ext.own s hn) ⟨p', _, rfl, hn, s.free hn, upd_same, .lst (r1.append r2)⟩
    · exact hp.elim
  · exact hp.elim
theorem fe_cat (ha : FE Γ X W M a ka ga) (hb : FE Γ X W M b kb gb) (h1 : ka ≠ .ob := by intro z; cases z) (h2 : kb ≠ .ob := by intro z; cases z) : FE Γ X W M (.BinOp a .Add b pos) .ow (g2 ga gb catD) := fe_bin (r := fun _ => _) (fun _ => op_catR) os_cat (ha.ov h1) (hb.ov h2)
/-! ### comparisons -/
theorem fe_lt (ha : FE Γ X W M a ka ga) (hb : FE Γ X W M b kb gb) : FE Γ X W M (.Compare a [.Lt] [b] pos) .sh (g2 ga gb ltD) := fe_cmp (r := fun _ => _) (fun _ => op_lt) (os_int0 fun _ _ _ => .bl _) ha.ob hb.ob (nomark _)
theorem fe_le (ha : FE Γ X W M a ka ga) (hb : FE Γ X W M b kb gb) : FE Γ X W M (.Compare a [.LtE] [b] pos) .sh (g2 ga gb leD) := fe_cmp (r := fun _ => _) (fun _ => op_le) (os_int0 fun _ _ _ => .bl _) ha.ob hb.ob (nomark _)
theorem fe_gt (ha : FE Γ X W M a ka ga) (hb : FE Γ X W M b kb gb) : FE Γ X W M (.Compare a [.Gt] [b] pos) .sh (g2 ga gb gtD) := fe_cmp (r := fun _ => _) (fun _ => op_gt) (os_int0 fun _ _ _ => .bl _) ha.ob hb.ob (nomark _)
theorem fe_ge (ha : FE Γ X W M a ka ga) (hb : FE Γ X W M b kb gb) : FE Γ X W M (.Compare a [.GtE] [b] pos) .sh (g2 ga gb geD) := fe_cmp (r := fun _ => _) (fun _ => op_ge) (os_int0 fun _ _ _ => .bl _) ha.ob hb.ob (nomark _)
theorem ft_lt (ha : FE Γ X W M a ka ga) (hb : FE Γ X W M b kb gb) : FT Γ X W M (.Compare a [.Lt] [b] pos) (gT (g2 ga gb ltD)) := ft_cmp (r := fun _ => _) (fun _ => op_lt) (os_int0 fun _ _ _ => .bl _) ha.ob hb.ob (nomark _)
theorem ft_le (ha : FE Γ X W M a ka ga) (hb : FE Γ X W M b kb gb) : FT Γ X W M (.Compare a [.LtE] [b] pos) (gT (g2 ga gb leD)) := ft_cmp (r := fun _ => _) (fun _ => op_le) (os_int0 fun _ _ _ => .bl _) ha.ob hb.ob (nomark _)
theorem ft_gt (ha : FE Γ X W M a ka ga) (hb : FE Γ X W M b kb gb) : FT Γ X W M (.Compare a [.Gt] [b] pos) (gT (g2 ga gb gtD)) := ft_cmp (r := fun _ => _) (fun _ => op_gt) (os_int0 fun _ _ _ => .bl _) ha.ob hb.ob (nomark _)
theorem ft_ge (ha : FE Γ X W M a ka ga) (hb : FE Γ X W M b kb gb) : FT Γ X W M (.Compare a [.GtE] [b] pos) (gT (g2 ga gb geD)) := ft_cmp (r := fun _ => _) (fun _ => op_ge) (os_int0 fun _ _ _ => .bl _) ha.ob hb.ob (nomark _)
/-! #### a <= x <= b -/
variable {c : Expr} {kc : Kd} {gc : Ev0 → Res D}
theorem fe_lele (ha : FE Γ X W M a ka ga) (hb : FE Γ X W M b kb gb) (hc : FE Γ X W M c kc gc) (hm : lastMarks [.LtE, .LtE] [b, c] = false := by with_unfolding_all rfl) : FE Γ X W M (.Compare a [.LtE, .LtE] [b, c] pos) .sh (gChain ga gb gc leD leD) :=
  fe_chain (r := fun _ => _) (r' := fun _ => _) (fun _ => op_le) (os_int0 fun _ _ _ => .bl _) (fun _ => op_le) (os_int0 fun _ _ _ => .bl _) ha.ob hb.ob hc.ob hm
theorem ft_lele (ha : FE Γ X W M a ka ga) (hb : FE Γ X W M b kb gb) (hc : FE Γ X W M c kc gc) (hm : lastMarks [.LtE, .LtE] [b, c] = false := by with_unfolding_all rfl) : FT Γ X W M (.Compare a [.LtE, .LtE] [b, c] pos) (gT (gChain ga gb gc leD leD)) :=
  ft_chain (r := fun _ => _) (r' := fun _ => _) (fun _ => op_le) (os_int0 fun _ _ _ => .bl _) (fun _ => op_le) (os_int0 fun _ _ _ => .bl _) ha.ob hb.ob hc.ob hm
end
/-! ### == of data -/
mutual
def py : D → Option PyData
  | .non => some .none
  | .bl b => some (.bool b)
  | .int i => some (.int i)
  | .str s => some (.str s)
  | .tup xs => (pyL xs).map .tuple
  | .lst xs => (pyL xs).map .list
  | .dK _ => none
  | .dT _ => none
  | .obj _ _ => none
  | .scr _ => none
  | .ctup _ => none
def pyL : List D → Option (List PyData)
  | [] => some []
  | d :: ds => match py d, pyL ds with
    | some p, some ps => some (p :: ps)
    | _, _ => none
end
mutual
theorem py_rep {F : Hp} : ∀ {v : V} {d : D} {p : PyData}, Rep Γ F v d → py d = some p → Dp Γ.K F v p
  | _, _, _, .non, e => by cases e; exact .non
  | _, _, _, .bl b, e => by cases e; exact .bl b
  | _, _, _, .int i, e => by cases e; exact .int i
  | _, _, _, .str s, e => by cases e; exact .str s
  | _, .tup ds, p, .tup h r, e => by
    unfold py at e
    cases q : pyL ds with
    | none => rw [q] at e; cases e
    | some ps => rw [q] at e; cases e; exact .tup h.seqT (pyL_rep r q)
  | _, .lst ds, p, .lst h r, e => by
    unfold py at e
    cases q : pyL ds with
    | none => rw [q] at e; cases e
    | some ps => rw [q] at e; cases e; exact .lst (.inl (.inl h)) (pyL_rep r q)
  | _, _, _, .dK h k r, e => by unfold py at e; cases e
  | _, _, _, .dT h k r, e => by unfold py at e; cases e
  | _, _, _, .obj h c k r, e => by unfold py at e; cases e
  | _, _, _, .scr h, e => by unfold py at e; cases e
  | _, _, _, .ctup h r, e => by unfold py at e; cases e
theorem pyL_rep {F : Hp} : ∀ {vs : List V} {ds : List D} {ps : List PyData}, RepL Γ F vs ds → pyL ds = some ps → DpAll Γ.K F vs ps
  | _, _, _, .nil, e => by unfold pyL at e; cases e; exact .nil
  | _, d :: ds, _, .cons h r, e => by
    unfold pyL at e
    cases q1 : py d with
    | none => rw [q1] at e; cases e
    | some p1 =>
      cases q2 : pyL ds with
      | none => rw [q1, q2] at e; cases e
      | some p2 => rw [q1, q2] at e; cases e; exact .cons (py_rep h q1) (pyL_rep r q2)
end
def eqD (neg : Bool) (a b : D) : Res D := match py a, py b with
  | some p, some q => if SeqAt.shaped p = true ∧ SeqAt.shaped q = true then .ok (.bl (if neg = true then !PyData.eqv p q else PyData.eqv p q)) else .no
  | _, _ => .no
theorem os_eq : OpS Γ (rEqD Γ.K) .ob .ob .sh (eqD false) := fun W F H σ Q x y a b s ra rb hp => by
  unfold eqD at hp
  split at hp
  · rename_i p q e1 e2
    split at hp
    · rename_i h
      exact ⟨p, q, py_rep ra e1, py_rep rb e2, h.1, h.2, hp F H _ (Ext.refl s) (.bl _)⟩
    · exact hp.elim
  · exact hp.elim
theorem os_ne : OpS Γ (rNeD Γ.K) .ob .ob .sh (eqD true) := fun W F H σ Q x y a b s ra rb hp => by
  unfold eqD at hp
  split at hp
  · rename_i p q e1 e2
    split at hp
    · rename_i h
      exact ⟨p, q, py_rep ra e1, py_rep rb e2, h.1, h.2, hp F H _ (Ext.refl s) (.bl _)⟩
    · exact hp.elim
  · exact hp.elim
section
variable {ι : Type} {X : ι → Cx} {W : WX} {M : List Nat} {a b e : Expr} {k ka kb : Kd} {pos : Pos} {ga gb : Ev0 → Res D}
theorem opEqA {Y : Cx} (h : Y.K = Γ.K) (u : Y.A.units + 64 < cLine) : OpR Y (compareOp .Eq) (rEqD Γ.K) := by rw [← h]; exact op_eqD u
theorem opNeA {Y : Cx} (h : Y.K = Γ.K) (u : Y.A.units + 64 < cLine) : OpR Y (compareOp .NotEq) (rNeD Γ.K) := by rw [← h]; exact op_neD u
theorem fe_eq (A : Amb Γ X) (ha : FE Γ X W M a ka ga) (hb : FE Γ X W M b kb gb) : FE Γ X W M (.Compare a [.Eq] [b] pos) .sh (g2 ga gb (eqD false)) := fe_cmp (r := fun Γ => rEqD Γ.K) (fun i => opEqA (A.K i) (A.un i)) os_eq ha.ob hb.ob (nomark _)
theorem fe_ne (A : Amb Γ X) (ha : FE Γ X W M a ka ga) (hb : FE Γ X W M b kb gb) : FE Γ X W M (.Compare a [.NotEq] [b] pos) .sh (g2 ga gb (eqD true)) := fe_cmp (r := fun Γ => rNeD Γ.K) (fun i => opNeA (A.K i) (A.un i)) os_ne ha.ob hb.ob (nomark _)
theorem ft_eq (A : Amb Γ X) (ha : FE Γ X W M a ka ga) (hb : FE Γ X W M b kb gb) : FT Γ X W M (.Compare a [.Eq] [b] pos) (gT (g2 ga gb (eqD false))) := ft_cmp (r := fun Γ => rEqD Γ.K) (fun i => opEqA (A.K i) (A.un i)) os_eq ha.ob hb.ob (nomark _)
theorem ft_ne (A : Amb Γ X) (ha : FE Γ X W M a ka ga) (hb : FE Γ X W M b kb gb) : FT Γ X W M (.Compare a [.NotEq] [b] pos) (gT (g2 ga gb (eqD true))) := ft_cmp (r := fun Γ => rNeD Γ.K) (fun i => opNeA (A.K i) (A.un i)) os_ne ha.ob hb.ob (nomark _)
/-! ### is None -/
def isNone : D → Bool
  | .non => true
  | _ => false
theorem Rep.isNone {F : Hp} {x : V} {a : D} (h : Rep Γ F x a) : isNone a = decide (x = V.non) := by cases h <;> rfl
def isN (neg : Bool) (a b : D) : Res D := match b with
  | .non => .ok (.bl (if neg = true then !isNone a else isNone a))
  | _ => .no
theorem os_isN : OpS Γ (fun x y H Q => y = .non ∧ Q (.bl (decide (x = .non))) H) .ob .ob .sh (isN false) := fun W F H σ Q x y a b s ra rb hp => by
  unfold isN at hp
  split at hp
  · rw [Rep.isNone ra] at hp
    exact ⟨Rep.non_inv rb, hp F H _ (Ext.refl s) (.bl _)⟩
  · exact hp.elim
theorem os_notN : OpS Γ (fun x y H Q => y = .non ∧ Q (.bl (!decide (x = .non))) H) .ob .ob .sh (isN true) := fun W F H σ Q x y a b s ra rb hp => by
  unfold isN at hp
  split at hp
  · rw [Rep.isNone ra] at hp
    exact ⟨Rep.non_inv rb, hp F H _ (Ext.refl s) (.bl _)⟩
  · exact hp.elim
theorem fe_isN (ha : FE Γ X W M a ka ga) (hb : FE Γ X W M b kb gb) : FE Γ X W M (.Compare a [.Is] [b] pos) .sh (g2 ga gb (isN false)) := fe_cmp (r := fun _ => _) (fun _ => op_isN) os_isN ha.ob hb.ob (nomark _)
theorem ft_isN (ha : FE Γ X W M a ka ga) (hb : FE Γ X W M b kb gb) : FT Γ X W M (.Compare a [.Is] [b] pos) (gT (g2 ga gb (isN false))) := ft_cmp (r := fun _ => _) (fun _ => op_isN) os_isN ha.ob hb.ob (nomark _)
theorem fe_notN (ha : FE Γ X W M a ka ga) (hb : FE Γ X W M b kb gb) : FE Γ X W M (.Compare a [.IsNot] [b] pos) .sh (g2 ga gb (isN true)) := fe_cmp (r := fun _ => _) (fun _ => op_notN) os_notN ha.ob hb.ob (nomark _)
theorem ft_notN (ha : FE Γ X W M a ka ga) (hb : FE Γ X W M b kb gb) : FT Γ X W M (.Compare a [.IsNot] [b] pos) (gT (g2 ga gb (isN true))) := ft_cmp (r := fun _ => _) (fun _ => op_notN) os_notN ha.ob hb.ob (nomark _)
/-! ### subscripts -/
def ixD : D → D → Res D
  | .lst xs, .int i => match atI xs i with | some d => .ok d | none => .no
  | .tup xs, .int i => match atI xs i with | some d => .ok d | none => .no
  | .ctup xs, .int i => match atI xs i with | some d => .ok d | none => .no
  | .scr ns, .int i => match atI ns i with | some n => .ok (.int n) | none => .no
  | .str s, .int i => if s.length ≤ sizeLine then match atI s.cps.toList i with | some c => .ok (.str ⟨#[c]⟩) | none => .no else .no
  | _, _ => .no
theorem RepL.atI {F : Hp} {vs : List V} {ds : List D} {i : Int} {d : D} (r : RepL Γ F vs ds) (h : L2.atI ds i = some d) : ∃ v, L2.atI vs i = some v ∧ Rep Γ F v d := by
  unfold L2.atI at h ⊢
  rw [r.length]
  cases q : ixN ds.length i with
  | none => rw [q] at h; cases h
  | some j =>
    rw [q] at h
    exact r.get h
theorem os_ix : OpS Γ (rIx Γ.K) .ov .ob .sh ixD := fun W F H σ Q x y a b s ra rb hp => by
  unfold ixD at hp
  split at hp
  · split at hp
    · rename_i d h
      obtain ⟨p, xs, rfl, h1, r1⟩ := Rep1.lst s ra
      obtain ⟨v, hv, rv⟩ := RepL.atI r1 h
      exact .inl ⟨p, xs, _, v, rfl, Rep.int_inv rb, .inl h1, hv, hp F H v (Ext.refl s) rv⟩
    · exact hp.elim
  · split at hp
    · rename_i d h
      obtain ⟨p, xs, rfl, h1, r1⟩ := Rep1.tup s ra
      obtain ⟨v, hv, rv⟩ := RepL.atI r1 h
      exact .inr (.inl ⟨p, xs, _, v, rfl, Rep.int_inv rb, h1, hv, hp F H v (Ext.refl s) rv⟩)
    · exact hp.elim
  · split at hp
    · rename_i d h
      have ra : Rep1 Γ F H x (.ctup _) := ra
      cases ra with
      | sc r =>
        cases r with
        | ctup hs r1 =>
          obtain ⟨v, hv, rv⟩ := RepL.atI r1 h
          exact .inr (.inl ⟨_, _, _, v, rfl, Rep.int_inv rb, hs H, hv, hp F H v (Ext.refl s) rv⟩)
      | ow e q => cases q
    · exact hp.elim
  · split at hp
    · rename_i ns i _ n h
      have ra : Rep1 Γ F H x (.scr ns) := ra
      cases ra with
      | sc r =>
        cases r with
        | scr hs =>
          have h2 : L2.atI (List.map V.int ns) i = some (V.int n) := by
            unfold L2.atI at h ⊢
            rw [List.length_map]
            cases z : ixN ns.length i with
            | none => rw [z] at h; cases h
            | some j =>
              rw [z] at h
              show (List.map V.int ns)[j]? = _
              have h : ns[j]? = some n := h
              rw [List.getElem?_map, h]
              rfl
          exact .inl ⟨_, _, _, _, rfl, Rep.int_inv rb, s.seq hs, h2, hp F H _ (Ext.refl s) (.int _)⟩
      | ow e q => cases q
    · exact hp.elim
  · split at hp
    · split at hp
      · rename_i h _ c hc
        exact .inr (.inr ⟨_, _, c, Rep.str_inv (Rep1.rep s ra), Rep.int_inv rb, h, hc, hp F H _ (Ext.refl s) (.str _)⟩)
      · exact hp.elim
    · exact hp.elim
  · exact hp.elim
theorem fe_ix (A : Amb Γ X) (ha : FE Γ X W M a ka ga) (hb : FE Γ X W M b kb gb) (hs : PlainIx b) (h1 : ka ≠ .ob := by intro z; cases z) : FE Γ X W M (.Subscript a b pos) .sh (g2 ga gb ixD) := by
  obtain ⟨ta, pa, ea⟩ := (ha.ov h1).ex
  obtain ⟨tb, pb, eb⟩ := hb.ob.ex
  exact ⟨_, fun i => by have := pe_ix (pos := pos) (X := X i) ix_seq (pa i) (pb i) hs; rw [A.K i] at this; exact this, ev_op os_ix ea eb⟩
/-! ### slices -/
def gOpt (g : Option (Ev0 → Res D)) : Ev0 → Res (Option Int) := match g with
  | none => fun _ => .ok none
  | some f => fun ρ => (f ρ).bind fun d => match d with | .int i => .ok (some i) | _ => .no
structure FO {ι : Type} (Γ : Gx) (X : ι → Cx) (W : WX) (M : List Nat) (e : Option Expr) (g : Option (Ev0 → Res D)) : Prop where
  ex : ∃ t : TO, (∀ i, PO (X i) e t) ∧ EvG Γ W M t (fun _ _ _ b a => b = a) (gOpt g)
theorem fo_none : FO Γ X W M none none := ⟨_, fun _ => po_none, fun F0 H0 F H σ ρ Q E hp => hp F H _ (Ext.refl E.same) rfl⟩
theorem fo_some (h : FE Γ X W M e k ga) : FO Γ X W M (some e) (some ga) := by
  obtain ⟨t, p, ev⟩ := h.ex
  refine ⟨_, fun i => po_some (p i), fun F0 H0 F H σ ρ Q E hp => ?_⟩
  show t σ H _
  refine EvG.bind ev (fun _ _ _ _ _ _ _ h => h) E hp fun d F1 H1 x e1 E1 r1 hp1 => ?_
  cases d <;> first
    | exact ⟨_, Rep.int_inv (OwnR.toB E1.same r1), hp1 F1 H1 _ (Ext.refl E1.same) rfl⟩
    | exact hp1.elim
def cutD (xs : List D) (lo hi : Option Int) : List D := (xs.drop (HT.sIx xs.length 0 lo)).take (HT.sIx xs.length xs.length hi - HT.sIx xs.length 0 lo)
theorem RepL.cut {F : Hp} {vs : List V} {ds : List D} (r : RepL Γ F vs ds) (lo hi : Option Int) : RepL Γ F (cutV vs lo hi) (cutD ds lo hi) := by
  unfold cutV cutD
  rw [r.length]
  exact (r.drop _).take _
/-- a slice of a list: a new one -/
def slL (a : D) (lo hi : Option Int) : Res D := match a with
  | .lst xs => .ok (.lst (cutD xs lo hi))
  | .scr ns => .ok (.lst (cutD (ns.map .int) lo hi))
  | _ => .no
/-- of a tuple -/
def slT (a : D) (lo hi : Option Int) : Res D := match a with
  | .tup xs => .ok (.tup (cutD xs lo hi))
  | _ => .no
def gSl (g : Ev0 → Res D) (l h : Option (Ev0 → Res D)) (op : D → Option Int → Option Int → Res D) : Ev0 → Res D := fun ρ => (g ρ).bind fun a => (gOpt l ρ).bind fun lo => (gOpt h ρ).bind fun hi => op a lo hi
variable {lo hi : Option Expr} {gl gh : Option (Ev0 → Res D)} {p2 : Pos}
theorem ev_sl {r : V → Option Int → Option Int → Hp → VK → Prop} {op : D → Option Int → Option Int → Res D} {ta : TE} {tl th : TO} (ho : ∀ W F H σ Q x a lo hi, Same F H → RelK Γ F H ka x a → PostG Γ W F H σ (RE Γ k) (op a lo hi) Q → r x lo hi H Q)
    (ha : EvG Γ W M ta (RE Γ ka) ga) (hl : EvG Γ W M tl (fun _ _ _ b a => b = a) (gOpt gl)) (hh : EvG Γ W M th (fun _ _ _ b a => b = a) (gOpt gh)) : EvG Γ W M (tSl r ta tl th) (RE Γ k) (gSl ga gl gh op) := fun F0 H0 F H σ ρ Q E hp => by
  show ta σ H _
  refine EvG.bind ha RE.mono E hp fun d F1 H1 x e1 E1 r1 hp1 => ?_
  refine EvG.bind hl RE.mono E1 hp1 fun l F2 H2 l' e2 E2 r2 hp2 => ?_
  subst r2
  refine EvG.bind hh RE.mono E2 hp2 fun h F3 H3 h' e3 E3 r3 hp3 => ?_
  subst r3
  exact ho W F3 H3 σ Q x d _ _ E3.same (((OwnR.rel r1).ext e2).ext e3) hp3
theorem fe_slL (A : Amb Γ X) (ha : FE Γ X W M a ka ga) (hl : FO Γ X W M lo gl) (hh : FO Γ X W M hi gh) (h1 : ka ≠ .ob := by intro z; cases z) : FE Γ X W M (.Subscript a (.Slice lo hi none p2) pos) .ow (gSl ga gl gh slL) := by
  obtain ⟨ta, pa, ea⟩ := (ha.ov h1).ex
  obtain ⟨tl, pl, el⟩ := hl.ex
  obtain ⟨th, ph, eh⟩ := hh.ex
  refine ⟨_, fun i => by have := pe_slice (pos := pos) (p2 := p2) (X := X i) sl_list (pa i) (pl i) (ph i); rw [A.K i] at this; exact this, ev_sl (fun W F H σ Q x a lo hi s ra hp => ?_) ea el eh⟩
  unfold slL at hp
  split at hp
  · obtain ⟨p, xs, rfl, h1, r1⟩ := Rep1.lst s ra
    exact ⟨p, xs, rfl, .inl h1, fun q hq => hp _ _ _ (Ext.own s hq) ⟨q, _, rfl, hq, s.free hq, upd_same, .lst (r1.cut lo hi)⟩⟩
  · have ra : Rep1 Γ F H x (.scr _) := ra
    cases ra with
    | sc r =>
      cases r with
      | scr hs => exact ⟨_, _, rfl, s.seq hs, fun q hq => hp _ _ _ (Ext.own s hq) ⟨q, _, rfl, hq, s.free hq, upd_same, .lst ((RepL.ints _).cut lo hi)⟩⟩
    | ow e q => cases q
  · exact hp.elim
def rSlB (K : PySem.W.Frag) : V → Option Int → Option Int → Hp → VK → Prop := fun x lo hi H Q => ∃ a xs, x = .ref a ∧ SqT K H a xs ∧
  (HT.sIx xs.length 0 lo = 0 ∧ HT.sIx xs.length xs.length hi = xs.length → Q (.ref a) H) ∧ (¬ (HT.sIx xs.length 0 lo = 0 ∧ HT.sIx xs.length xs.length hi = xs.length) → (∀ p, H p = none → Q (.ref p) (upd H p (.tup (cutV xs lo hi)))) ∨ ∀ p (o : Obj), o.dict = none → H p = none → Q (.ref p) (upd H p (.frz o (.tup (cutV xs lo hi)))))
theorem sl_tupB {X : Cx} : SlR X (rSlB X.K) := by
  intro pins s σ H x v vl vu lo hi sl Q I rx hs pl pu h
  obtain ⟨a, xs, rfl, hx, q1, q2⟩ := h
  cases rx
  obtain ⟨its, r, ht, hz⟩ := I.tuple hx
  have hlen : its.toArray.size = xs.length := by rw [List.size_toArray]; exact r.length.symm
  refine ⟨"tuple", _, PyProof.Rows.slot_tuple_getitem.lookup, ht.typeIs, ?_⟩
  by_cases hw : HT.sIx xs.length 0 lo = 0 ∧ HT.sIx xs.length xs.length hi = xs.length
  · exact getItem_tuple_whole ht hs pl pu (by rw [hlen]; exact hw) ⟨.ref a, H, I, rfl, q1 hw⟩
  · refine HT.getItem_tuple_cut ht hs pl pu (by rw [hlen]; exact hw) ?_ (by rw [hlen]; exact hz)
    rw [hlen]
    rcases q2 hw with q | q
    · refine ⟨.ref s.heap.objs.size, _, I.laid (t' := s.toks) (o := .tup (cutV xs lo hi)) (fun b ob q => Heap.get?_push_of_some _ q) (Nat.le_refl _) ?_, rfl, q _ (I.hok.fresh (Nat.le_refl _))⟩
      exact ⟨Nat.le_trans (cutV_length xs lo hi) hz, _, (r.drop (HT.sIx xs.length 0 lo)).take (HT.sIx xs.length xs.length hi - HT.sIx xs.length 0 lo), IsTup.new _ _⟩
    · refine ⟨.ref s.heap.objs.size, _, I.laid (t' := s.toks) (o := .frz _ (.tup (cutV xs lo hi))) (fun b ob q => Heap.get?_push_of_some _ q) (Nat.le_refl _) ⟨Heap.get?_push_size _ rfl, ?_⟩, rfl, q _ _ ?_ (I.hok.fresh (Nat.le_refl _))⟩
      · exact ⟨Nat.le_trans (cutV_length xs lo hi) hz, _, (r.drop (HT.sIx xs.length 0 lo)).take (HT.sIx xs.length xs.length hi - HT.sIx xs.length 0 lo), IsTup.new _ _⟩
      · rfl
theorem fe_slT (A : Amb Γ X) (ha : FE Γ X W M a .sh ga) (hl : FO Γ X W M lo gl) (hh : FO Γ X W M hi gh) : FE Γ X W M (.Subscript a (.Slice lo hi none p2) pos) .sh (gSl ga gl gh slT) := by
  obtain ⟨ta, pa, ea⟩ := ha.ex
  obtain ⟨tl, pl, el⟩ := hl.ex
  obtain ⟨th, ph, eh⟩ := hh.ex
  refine ⟨_, fun i => by have := pe_slice (pos := pos) (p2 := p2) (X := X i) sl_tupB (pa i) (pl i) (ph i); rw [A.K i] at this; exact this, ev_sl (fun W F H σ Q x a lo hi s ra hp => ?_) ea el eh⟩
  unfold slT at hp
  split at hp
  · have ra : Rep Γ F x (.tup _) := ra
    cases ra with
    | tup h1 r1 =>
      rename_i ds p xs
      refine ⟨p, xs, rfl, (h1.mono s).seqT, fun hw => ?_, fun hw => ?_⟩
      · have e : cutV xs lo hi = xs := by
          unfold cutV
          rw [hw.1, hw.2, List.drop_zero, Nat.sub_zero, List.take_length]
        have r2 := r1.cut lo hi
        rw [e] at r2
        have e3 : cutD ds lo hi = ds := by
          unfold cutD
          rw [← r1.length, hw.1, hw.2, List.drop_zero, Nat.sub_zero, r1.length, List.take_length]
        rw [e3] at hp
        exact hp F H _ (Ext.refl s) (.tup h1 r1)
      · exact tup_new (σ := σ) s (r1.cut lo hi) hp
  · exact hp.elim
end
end FL
namespace FL
open PySem PySem.Spec PyProof.Rows L2
variable {Γ : Gx}
/-- the own slots behind a block, at a break, at a continue -/
structure Mds where
  nx : List Nat
  bk : List Nat
  ct : List Nat
def PostS (Γ : Gx) (W : WX) (B : Hp) (F0 H0 : Hp) (D : Ends) (m : Mds) (kr : Kd) : Out → Prop
  | .nx ρ => ∀ F H σ, Same B F → EO Γ F0 H0 F H m.nx σ ρ → D.nx σ H
  | .bk ρ => ∀ F H σ, Same B F → EO Γ F0 H0 F H m.bk σ ρ → D.bk σ H
  | .ct ρ => ∀ F H σ, Same B F → EO Γ F0 H0 F H m.ct σ ρ → D.ct σ H
  | .rt d => ∀ F H v, Ext F0 H0 F H → OwnR Γ H0 F H kr v d → D.rt v H
  | .ex c => ∀ F H σ C, Ext F0 H0 F H → Γ.ct c = some C → W (.ref C) none σ H
  | .no => False
def Sv (Γ : Gx) (W : WX) (M : List Nat) (m : Mds) (kr : Kd) (t : TS) (g : Ev0 → Out) : Prop :=
  ∀ F0 H0 F H σ ρ D, EO Γ F0 H0 F H M σ ρ → PostS Γ W F F0 H0 D m kr (g ρ) → t D σ H
theorem PostS.mono {W : WX} {B B' F0 H0 : Hp} {D : Ends} {m : Mds} {kr : Kd} {o : Out} (e : Same B B') (h : PostS Γ W B F0 H0 D m kr o) : PostS Γ W B' F0 H0 D m kr o := by
  cases o with
  | nx ρ => exact fun F H σ s E => h F H σ (e.trans s) E
  | bk ρ => exact fun F H σ s E => h F H σ (e.trans s) E
  | ct ρ => exact fun F H σ s E => h F H σ (e.trans s) E
  | rt d => exact h
  | ex c => exact h
  | no => exact h
structure FSs {ι : Type} (Γ : Gx) (X : ι → Cx) (W : WX) (M : List Nat) (m : Mds) (kr : Kd) (st : List Stmt) (g : Ev0 → Out) : Prop where
  ex : ∃ t : TS, (∀ i, PSs (X i) st t) ∧ Sv Γ W M m kr t g
structure FS {ι : Type} (Γ : Gx) (X : ι → Cx) (W : WX) (M : List Nat) (m : Mds) (kr : Kd) (st : Stmt) (g : Ev0 → Out) : Prop where
  ex : ∃ t : TS, (∀ i, PS (X i) st t) ∧ Sv Γ W M m kr t g
/-- an expression, then a statement's end -/
def rOut {α : Type} (r : Res α) (f : α → Out) : Out := match r with
  | .ok a => f a
  | .ex c => .ex c
  | .no => .no
theorem EvG.out {α β : Type} {W : WX} {M : List Nat} {t : L2.St → Hp → (β → Hp → Prop) → Prop} {R : RG α β} {g : Ev0 → Res α} {f : α → Out} {K : β → Hp → Prop} {F0 H0 F H : Hp} {σ : L2.St} {ρ : Ev0} {D : Ends} {m : Mds} {kr : Kd}
    (ha : EvG Γ W M t R g) (E : EO Γ F0 H0 F H M σ ρ) (hp : PostS Γ W F F0 H0 D m kr (rOut (g ρ) f))
    (step : ∀ a F1 H1 b, Ext F H F1 H1 → EO Γ F0 H0 F1 H1 M σ ρ → R H F1 H1 b a → PostS Γ W F1 F0 H0 D m kr (f a) → K b H1) : t σ H K := by
  refine ha F0 H0 F H σ ρ K E ?_
  cases h : g ρ with
  | ok a => rw [h] at hp; exact fun F' H' b e r => step a F' H' b e (E.extend e) r (hp.mono e.f)
  | ex c => rw [h] at hp; exact fun F' H' C e q => hp F' H' σ C (E.ext.trans e) q
  | no => rw [h] at hp; exact hp.elim
/-! ### the slots stored -/
theorem contains_filter {M : List Nat} {i j : Nat} : (M.filter (· != i)).contains j = (M.contains j && (j != i)) := by
  rw [Bool.eq_iff_iff]
  simp [List.contains_iff_mem]
section
variable {F0 H0 F H F' H' : Hp} {M : List Nat} {σ : L2.St} {ρ : Ev0}
theorem EO.set (E : EO Γ F0 H0 F H M σ ρ) (i : Nat) {v : V} {d : D} (r : Rep Γ F v d) : EO Γ F0 H0 F H (M.filter (· != i)) (σ.set i (some v)) (ρ.set i (some d)) := by
  refine ⟨by rw [List.length_set, List.length_set]; exact E.len, E.ext, fun j e h => ?_, fun j k p d' e' hjk h1 h2 h3 h4 h5 h6 => ?_⟩
  · by_cases hj : i = j
    · subst hj
      have hl : i < ρ.length := by
        cases z : decide (i < ρ.length) with
        | true => exact of_decide_eq_true z
        | false =>
          rw [List.getElem?_eq_none (by rw [List.length_set]; exact Nat.le_of_not_lt (of_decide_eq_false z))] at h
          cases h
      rw [List.getElem?_set_self hl] at h
      cases h
      refine ⟨v, List.getElem?_set_self (by rw [E.len]; exact hl), ?_⟩
      rw [contains_filter]
      have : (i != i) = false := by simp
      rw [this, Bool.and_false]
      exact r
    · rw [List.getElem?_set_ne hj] at h
      obtain ⟨w, h1, h2⟩ := E.slot j e h
      refine ⟨w, by rw [List.getElem?_set_ne hj]; exact h1, ?_⟩
      rw [contains_filter]
      have : (j != i) = true := by simp [Ne.symm hj]
      rw [this, Bool.and_true]
      exact h2
  · rw [contains_filter, Bool.and_eq_true] at h1 h2
    have nj : i ≠ j := fun z => by subst z; simp at h1
    have nk : i ≠ k := fun z => by subst z; simp at h2
    rw [List.getElem?_set_ne nj] at h3 h5
    rw [List.getElem?_set_ne nk] at h4 h6
    exact E.disj j k p d' e' hjk h1.1 h2.1 h3 h4 h5 h6
/-- a new own object stored -/
theorem EO.setO (E : EO Γ F0 H0 F H M σ ρ) (e : Ext F H F' H') (i : Nat) {p : Addr} {o : HO} {d : D} (hn : H p = none) (hf : F' p = none) (ho : H' p = some o) (q : Hold Γ F' o d) : EO Γ F0 H0 F' H' (i :: M.filter (· != i)) (σ.set i (some (.ref p))) (ρ.set i (some d)) := by
  have E1 := E.extend e
  have ci : ∀ j, i ≠ j → (i :: M.filter (· != i)).contains j = M.contains j := fun j hj => by
    rw [List.contains_cons, contains_filter]
    have h1 : (j == i) = false := by simp [Ne.symm hj]
    have h2 : (j != i) = true := by simp [Ne.symm hj]
    rw [h1, h2, Bool.and_true, Bool.false_or]
  have own : ∀ j d', i ≠ j → M.contains j = true → ρ[j]? = some (some d') → σ[j]? ≠ some (some (.ref p)) := fun j d' hj hM hd hs => by
    obtain ⟨v, h1, h2⟩ := E.slot j d' hd
    rw [hM] at h2
    obtain ⟨p', o', rfl, _, _, h3, _⟩ := h2
    rw [hs] at h1
    cases h1
    rw [hn] at h3
    cases h3
  refine ⟨by rw [List.length_set, List.length_set]; exact E.len, E1.ext, fun j e' h => ?_, fun j k p' d1 d2 hjk h1 h2 h3 h4 h5 h6 => ?_⟩
  · by_cases hj : i = j
    · subst hj
      have hl : i < ρ.length := by
        cases z : decide (i < ρ.length) with
        | true => exact of_decide_eq_true z
        | false =>
          rw [List.getElem?_eq_none (by rw [List.length_set]; exact Nat.le_of_not_lt (of_decide_eq_false z))] at h
          cases h
      rw [List.getElem?_set_self hl] at h
      cases h
      refine ⟨_, List.getElem?_set_self (by rw [E.len]; exact hl), ?_⟩
      have : (i :: M.filter (· != i)).contains i = true := by simp
      rw [this]
      exact ⟨p, o, rfl, E.ext.h.free hn, hf, ho, q⟩
    · rw [List.getElem?_set_ne hj] at h
      obtain ⟨w, h1, h2⟩ := E1.slot j e' h
      refine ⟨w, by rw [List.getElem?_set_ne hj]; exact h1, ?_⟩
      rw [ci j hj]
      exact h2
  · by_cases nj : i = j
    · subst nj
      have nk : i ≠ k := hjk
      rw [ci k nk] at h2
      rw [List.getElem?_set_ne nk] at h4 h6
      have hl : i < σ.length := by
        cases z : decide (i < σ.length) with
        | true => exact of_decide_eq_true z
        | false =>
          rw [List.getElem?_eq_none (by rw [List.length_set]; exact Nat.le_of_not_lt (of_decide_eq_false z))] at h5
          cases h5
      rw [List.getElem?_set_self hl] at h5
      cases h5
      exact own k d2 nk h2 h4 h6
    · by_cases nk : i = k
      · subst nk
        rw [ci j nj] at h1
        rw [List.getElem?_set_ne nj] at h3 h5
        have hl : i < σ.length := by
          cases z : decide (i < σ.length) with
          | true => exact of_decide_eq_true z
          | false =>
            rw [List.getElem?_eq_none (by rw [List.length_set]; exact Nat.le_of_not_lt (of_decide_eq_false z))] at h6
            cases h6
        rw [List.getElem?_set_self hl] at h6
        cases h6
        exact own j d1 nj h1 h3 h5
      · rw [ci j nj] at h1
        rw [ci k nk] at h2
        rw [List.getElem?_set_ne nj] at h3 h5
        rw [List.getElem?_set_ne nk] at h4 h6
        exact E1.disj j k p' d1 d2 hjk h1 h2 h3 h4 h5 h6
/-- an own object changed -/
theorem EO.upd (E : EO Γ F0 H0 F H M σ ρ) {i : Nat} {p : Addr} {o' : HO} {d d' : D} (hM : M.contains i = true) (hd : ρ[i]? = some (some d)) (hp : σ[i]? = some (some (.ref p))) (h0 : H0 p = none) (hf : F p = none) (q : Hold Γ F o' d') :
    EO Γ F0 H0 F (L2.upd H p o') M σ (ρ.set i (some d')) := by
  have hl : i < ρ.length := (List.getElem?_eq_some_iff.mp hd).1
  refine ⟨by rw [List.length_set]; exact E.len, ⟨E.ext.f, fun b x z => ?_, fun b x z => ?_, E.ext.n⟩, fun j e h => ?_, fun j k p' d1 d2 hjk h1 h2 h3 h4 h5 h6 => ?_⟩
  · rw [upd_ne (ne_of_none z h0)]
    exact E.ext.h _ _ z
  · rw [upd_ne (ne_of_none z hf)]
    exact E.same _ _ z
  · by_cases hj : i = j
    · subst hj
      rw [List.getElem?_set_self hl] at h
      cases h
      refine ⟨_, hp, ?_⟩
      rw [hM]
      exact ⟨p, o', rfl, h0, hf, upd_same, q⟩
    · rw [List.getElem?_set_ne hj] at h
      obtain ⟨w, h1, h2⟩ := E.slot j e h
      refine ⟨w, h1, ?_⟩
      cases hMj : M.contains j with
      | false => rw [hMj] at h2; exact h2
      | true =>
        rw [hMj] at h2
        obtain ⟨p', o, rfl, g0, gf, gp, gq⟩ := h2
        have npp : p' ≠ p := fun z => by
          subst z
          exact E.disj i j p' d e hj hM hMj hd h hp h1
        exact ⟨p', o, rfl, g0, gf, by rw [upd_ne npp]; exact gp, gq⟩
  · have back : ∀ {j : Nat} {x : D}, (ρ.set i (some d'))[j]? = some (some x) → ∃ y, ρ[j]? = some (some y) := fun {j x} h => by
      by_cases hj : i = j
      · subst hj; exact ⟨d, hd⟩
      · rw [List.getElem?_set_ne hj] at h; exact ⟨x, h⟩
    obtain ⟨y1, h3'⟩ := back h3
    obtain ⟨y2, h4'⟩ := back h4
    exact E.disj j k p' y1 y2 hjk h1 h2 h3' h4' h5 h6
/-- fewer data are known -/
theorem EO.less {σ' : L2.St} {ρ' : Ev0} (E : EO Γ F0 H0 F H M σ ρ) (hl : σ'.length = ρ'.length) (h : ∀ (i : Nat) (d : D), ρ'[i]? = some (some d) → ρ[i]? = some (some d) ∧ σ'[i]? = σ[i]?) : EO Γ F0 H0 F H M σ' ρ' :=
  ⟨hl, E.ext, fun i d e => by
    obtain ⟨h1, h2⟩ := h i d e
    rw [h2]
    exact E.slot i d h1, fun j k p d1 d2 hjk h1 h2 h3 h4 h5 h6 => by
    obtain ⟨a1, a2⟩ := h j d1 h3
    obtain ⟨b1, b2⟩ := h k d2 h4
    rw [a2] at h5
    rw [b2] at h6
    exact E.disj j k p d1 d2 hjk h1 h2 a1 b1 h5 h6⟩
end
section
variable {ι : Type} {X : ι → Cx} {W : WX} {M M1 : List Nat} {m : Mds} {e : Expr} {k kr : Kd} {pos : Pos} {ga : Ev0 → Res D} {st : Stmt} {sts rest : List Stmt} {g g' : Ev0 → Out}
/-! ### blocks -/
def oNil : Ev0 → Out := fun ρ => .nx ρ
def oSeq (g h : Ev0 → Out) : Ev0 → Out := fun ρ => match g ρ with
  | .nx ρ' => h ρ'
  | o => o
theorem fss_nil {M bk ct : List Nat} : FSs Γ X W M ⟨M, bk, ct⟩ kr [] oNil := ⟨_, fun _ => pss_nil, fun F0 H0 F H σ ρ D E hp => hp F H σ (Same.refl F) E⟩
theorem fss_cons (h1 : FS Γ X W M ⟨M1, m.bk, m.ct⟩ kr st g) (h2 : FSs Γ X W M1 m kr rest g') : FSs Γ X W M m kr (st :: rest) (oSeq g g') := by
  obtain ⟨t, p, s1⟩ := h1.ex
  obtain ⟨u, q, s2⟩ := h2.ex
  refine ⟨_, fun i => pss_cons (p i) (q i), fun F0 H0 F H σ ρ D E hp => ?_⟩
  refine s1 F0 H0 F H σ ρ { D with nx := u D } E ?_
  unfold oSeq at hp
  cases z : g ρ with
  | nx ρ' =>
    rw [z] at hp
    exact fun F' H' σ' s' E' => s2 F0 H0 F' H' σ' ρ' D E' (hp.mono s')
  | rt d => rw [z] at hp; exact hp
  | bk ρ' => rw [z] at hp; exact hp
  | ct ρ' => rw [z] at hp; exact hp
  | ex c => rw [z] at hp; exact hp
  | no => rw [z] at hp; exact hp
theorem fss_one (h1 : FS Γ X W M m kr st g) : FSs Γ X W M m kr [st] g := by
  obtain ⟨t, p, s1⟩ := h1.ex
  exact ⟨_, fun i => pss_one (p i), s1⟩
/-- slot i is shared from here on -/
theorem fss_freeze (i : Nat) (h : FSs Γ X W (M.filter (· != i)) m kr sts g) : FSs Γ X W M m kr sts g := by
  obtain ⟨t, p, s1⟩ := h.ex
  refine ⟨t, p, fun F0 H0 F H σ ρ D E hp => ?_⟩
  obtain ⟨F', sF, E'⟩ := E.freeze i
  exact s1 F0 H0 F' H σ ρ D E' (hp.mono sF)
theorem fs_freeze (i : Nat) (h : FS Γ X W (M.filter (· != i)) m kr st g) : FS Γ X W M m kr st g := by
  obtain ⟨t, p, s1⟩ := h.ex
  refine ⟨t, p, fun F0 H0 F H σ ρ D E hp => ?_⟩
  obtain ⟨F', sF, E'⟩ := E.freeze i
  exact s1 F0 H0 F' H σ ρ D E' (hp.mono sF)
/-- behind the block slot i is shared -/
theorem fss_after (i : Nat) {N bk ct : List Nat} (h : FSs Γ X W M ⟨N, bk, ct⟩ kr sts g) : FSs Γ X W M ⟨N.filter (· != i), bk, ct⟩ kr sts g := by
  obtain ⟨t, p, s1⟩ := h.ex
  refine ⟨t, p, fun F0 H0 F H σ ρ D E hp => s1 F0 H0 F H σ ρ D E ?_⟩
  cases z : g ρ with
  | nx ρ' =>
    rw [z] at hp
    intro F1 H1 σ1 s1 E1
    obtain ⟨F', sF, E'⟩ := E1.freeze i
    exact hp F' H1 σ1 (s1.trans sF) E'
  | rt d => rw [z] at hp; exact hp
  | bk ρ' => rw [z] at hp; exact hp
  | ct ρ' => rw [z] at hp; exact hp
  | ex c => rw [z] at hp; exact hp
  | no => rw [z] at hp; exact hp
/-- a block whose end is never reached -/
theorem fss_any {N : List Nat} (h : FSs Γ X W M ⟨N, m.bk, m.ct⟩ kr sts g) (hn : ∀ ρ ρ', g ρ ≠ .nx ρ') : FSs Γ X W M m kr sts g := by
  obtain ⟨t, p, s1⟩ := h.ex
  refine ⟨t, p, fun F0 H0 F H σ ρ D E hp => s1 F0 H0 F H σ ρ D E ?_⟩
  cases z : g ρ with
  | nx ρ' => exact absurd z (hn ρ ρ')
  | rt d => rw [z] at hp; exact hp
  | bk ρ' => rw [z] at hp; exact hp
  | ct ρ' => rw [z] at hp; exact hp
  | ex c => rw [z] at hp; exact hp
  | no => rw [z] at hp; exact hp
/-! ### small statements -/
theorem fs_pass {M bk ct : List Nat} : FS Γ X W M ⟨M, bk, ct⟩ kr (.Pass pos) oNil := ⟨_, fun _ => ps_pass, fun F0 H0 F H σ ρ D E hp => hp F H σ (Same.refl F) E⟩
def oBrk : Ev0 → Out := fun ρ => .bk ρ
def oCnt : Ev0 → Out := fun ρ => .ct ρ
theorem fs_break {M ct : List Nat} : FS Γ X W M ⟨M1, M, ct⟩ kr (.Break pos) oBrk := ⟨_, fun _ => ps_break, fun F0 H0 F H σ ρ D E hp => hp F H σ (Same.refl F) E⟩
theorem fs_continue {M bk : List Nat} : FS Γ X W M ⟨M1, bk, M⟩ kr (.Continue pos) oCnt := ⟨_, fun _ => ps_continue, fun F0 H0 F H σ ρ D E hp => hp F H σ (Same.refl F) E⟩
def oExpr (g : Ev0 → Res D) : Ev0 → Out := fun ρ => rOut (g ρ) fun _ => .nx ρ
theorem fs_expr {M bk ct : List Nat} (h : FE Γ X W M e k ga) (hs : ∀ i, swapsWith e none pos.line (X i).env = pure false) : FS Γ X W M ⟨M, bk, ct⟩ kr (.Expr e pos) (oExpr ga) := by
  obtain ⟨t, p, ev⟩ := h.ex
  refine ⟨_, fun i => ps_expr (p i) (hs i), fun F0 H0 F H σ ρ D E hp => ?_⟩
  show t σ H _
  exact EvG.out ev E hp fun d F1 H1 v e1 E1 r1 hp1 => hp1 F1 H1 σ (Same.refl F1) E1
def oRet (g : Ev0 → Res D) : Ev0 → Out := fun ρ => rOut (g ρ) fun d => .rt d
theorem fs_ret (h : FE Γ X W M e kr ga) : FS Γ X W M m kr (.Return (some e) pos) (oRet ga) := by
  obtain ⟨t, p, ev⟩ := h.ex
  refine ⟨_, fun i => ps_ret (p i), fun F0 H0 F H σ ρ D E hp => ?_⟩
  show t σ H _
  exact EvG.out ev E hp fun d F1 H1 v e1 E1 r1 hp1 => hp1 F1 H1 v E1.ext (RE.mono _ _ _ _ _ _ E.ext.h r1)
/-- return of an own list or dict -/
theorem fs_retO (i : Nat) {x : Str} {p2 : Pos} (hN : ∀ j, (X j).N[i]? = some x) (hv : ∀ j, Vis (X j).env.scope x) (hm : M.contains i = true) (hd : (x == ("__debug__" : Str)) = false := by decide) (hcd : (x == ("__classdict__" : Str)) = false := by decide) :
    FS Γ X W M m .ow (.Return (some (.Name x p2)) pos) (oRet (gVar i)) := by
  refine ⟨_, fun j => ps_ret (pe_var (hN j) (hv j) hd hcd), fun F0 H0 F H σ ρ D E hp => ?_⟩
  unfold oRet gVar at hp
  cases h : ρ[i]? with
  | none => rw [h] at hp; exact hp.elim
  | some o =>
    cases o with
    | none => rw [h] at hp; exact hp.elim
    | some d =>
      rw [h] at hp
      obtain ⟨v, hv, hs⟩ := E.slot i d h
      rw [hm] at hs
      obtain ⟨q, o, rfl, h0, hf, ho, hh⟩ := hs
      exact ⟨_, hv, hp F H _ E.ext ⟨q, o, rfl, h0, hf, ho, hh⟩⟩
def oRetN : Ev0 → Out := fun _ => .rt .non
theorem fs_retN : FS Γ X W M m .sh (.Return none pos) oRetN := ⟨_, fun _ => ps_retN, fun F0 H0 F H σ ρ D E hp => hp F H _ E.ext .non⟩
def oIf (f : Ev0 → Res Bool) (g h : Ev0 → Out) : Ev0 → Out := fun ρ => rOut (f ρ) fun c => if c = true then g ρ else h ρ
theorem fs_if {c : Expr} {a b : List Stmt} {f : Ev0 → Res Bool} (hc : FT Γ X W M c f) (ha : FSs Γ X W M m kr a g) (hb : FSs Γ X W M m kr b g') : FS Γ X W M m kr (.If c a b pos) (oIf f g g') := by
  obtain ⟨t, p, ev⟩ := hc.ex
  obtain ⟨ta, pa, sa⟩ := ha.ex
  obtain ⟨tb, pb, sb⟩ := hb.ex
  refine ⟨_, fun i => ps_if (p i) (pa i) (pb i), fun F0 H0 F H σ ρ D E hp => ?_⟩
  show t σ H _
  refine EvG.out ev E hp fun d F1 H1 v e1 E1 r1 hp1 => ?_
  subst r1
  cases v with
  | true => exact sa F0 H0 F1 H1 σ ρ D E1 hp1
  | false => exact sb F0 H0 F1 H1 σ ρ D E1 hp1
/-- x = e -/
def oSet (i : Nat) (g : Ev0 → Res D) : Ev0 → Out := fun ρ => rOut (g ρ) fun d => .nx (ρ.set i (some d))
theorem fs_set (A : Amb Γ X) (i : Nat) {x : Str} {p2 : Pos} (hi : ∀ j, (X j).N[i]? = some x) (hx : ∀ j, Loc (X j).env.scope x) (h : FE Γ X W M e .sh ga) (hs : ∀ j, swapsWith e (some (.Name x p2)) pos.line (X j).env = pure false)
    (hf : ∀ j, (X j).fn x = true ∨ (X j).env.scope.names.lookup x = some .local) : FS Γ X W M ⟨M.filter (· != i), m.bk, m.ct⟩ kr (.Assign [.Name x p2] e pos) (oSet i ga) := by
  obtain ⟨t, p, ev⟩ := h.ex
  refine ⟨_, fun j => ps_set (A.nd j) (hi j) (hx j) (p j) (hs j) (hf j), fun F0 H0 F H σ ρ D E hp => ?_⟩
  show t σ H _
  exact EvG.out ev E hp fun d F1 H1 v e1 E1 r1 hp1 => hp1 F1 H1 _ (Same.refl F1) (E1.set i r1)
theorem fs_setO (A : Amb Γ X) (i : Nat) {x : Str} {p2 : Pos} (hi : ∀ j, (X j).N[i]? = some x) (hx : ∀ j, Loc (X j).env.scope x) (h : FE Γ X W M e .ow ga) (hs : ∀ j, swapsWith e (some (.Name x p2)) pos.line (X j).env = pure false)
    (hf : ∀ j, (X j).fn x = true ∨ (X j).env.scope.names.lookup x = some .local) : FS Γ X W M ⟨i :: M.filter (· != i), m.bk, m.ct⟩ kr (.Assign [.Name x p2] e pos) (oSet i ga) := by
  obtain ⟨t, p, ev⟩ := h.ex
  refine ⟨_, fun j => ps_set (A.nd j) (hi j) (hx j) (p j) (hs j) (hf j), fun F0 H0 F H σ ρ D E hp => ?_⟩
  show t σ H _
  refine EvG.out ev E hp fun d F1 H1 v e1 E1 r1 hp1 => ?_
  obtain ⟨q, o, rfl, hn, hf, ho, hh⟩ := r1
  exact hp1 F1 H1 _ (Same.refl F1) (E.setO e1 i hn hf ho hh)
/-! ### own lists changed -/
/-- what an own slot holds -/
theorem EO.own {F0 H0 F H : Hp} {σ : L2.St} {ρ : Ev0} (E : EO Γ F0 H0 F H M σ ρ) {i : Nat} {d : D} (hm : M.contains i = true) (hd : ρ[i]? = some (some d)) : ∃ p o, σ[i]? = some (some (.ref p)) ∧ H0 p = none ∧ F p = none ∧ H p = some o ∧ Hold Γ F o d := by
  obtain ⟨v, hv, hs⟩ := E.slot i d hd
  rw [hm] at hs
  obtain ⟨p, o, rfl, h⟩ := hs
  exact ⟨p, o, hv, h⟩
/-- the list in slot i, by a datum, becomes another -/
def oLst (i : Nat) (g : Ev0 → Res D) (f : List D → D → Option (List D)) : Ev0 → Out := fun ρ => match ρ[i]? with
  | some (some (.lst xs)) => rOut (g ρ) fun d => match f xs d with
    | some ys => .nx (ρ.set i (some (.lst ys)))
    | none => .no
  | _ => .no
theorem ev_oLst {F0 H0 F H : Hp} {σ : L2.St} {ρ : Ev0} {i : Nat} {f : List D → D → Option (List D)} {D : Ends} {t : TE} {K : V → Hp → Prop} {m : Mds} (ev : EvG Γ W m.nx t (RE Γ k) ga) (E : EO Γ F0 H0 F H m.nx σ ρ) (hm : m.nx.contains i = true) (hp : PostS Γ W F F0 H0 D m kr (oLst i ga f ρ))
    (step : ∀ F1 H1 p vs ds v d ys, Same F1 H1 → σ[i]? = some (some (.ref p)) → H p = some (.lst vs) → H1 p = some (.lst vs) → RepL Γ F1 vs ds → RelK Γ F1 H1 k v d → f ds d = some ys → (∀ ws, RepL Γ F1 ws ys → D.nx σ (upd H1 p (.lst ws))) → K v H1) : (∃ p vs, σ[i]? = some (some (.ref p)) ∧ H p = some (.lst vs)) ∧ t σ H K := by
  unfold oLst at hp
  split at hp
  · rename_i ds hd
    obtain ⟨p, o, hv, h0, hf, ho, hh⟩ := E.own hm hd
    cases hh with
    | lst r =>
      rename_i vs
      refine ⟨⟨p, vs, hv, ho⟩, ?_⟩
      refine EvG.out ev E hp fun d F1 H1 v e1 E1 r1 hp1 => ?_
      obtain ⟨p', o', hv', h0', hf', ho', hh'⟩ := E1.own hm hd
      rw [hv] at hv'
      cases hv'
      rw [e1.h _ _ ho] at ho'
      cases ho'
      cases hh' with
      | lst r' =>
        split at hp1
        · rename_i ys hy
          exact step F1 H1 p vs ds v d ys E1.same hv ho (e1.h _ _ ho) r' (OwnR.rel r1) hy fun ws rw' => hp1 F1 _ σ (Same.refl F1) (E1.upd hm hd hv h0 hf' (.lst rw'))
        · exact hp1.elim
  · exact hp.elim
def fApp (xs : List D) (d : D) : Option (List D) := if xs.length < sizeLine then some (xs ++ [d]) else none
/-- what a method's call of an own list wants of the text -/
structure MTx {ι : Type} (X : ι → Cx) (x : Str) (p1 apos cpos pos : Pos) (nm : Str) (e : Expr) : Prop where
  hbase : ∀ j, attributeBase (.Name x p1) nm (X j).env (eval (.Name x p1) (X j).env) = eval (.Name x p1) (X j).env
  hfew : ∀ j, ((backTo cpos (starEach [e] (X j).env)).all (fun x => !x.1) && (backToKw cpos (keywordEach [] (X j).env)).all (fun x => x.1.isSome) && decide (([e] : List Expr).length + ([] : List Keyword).length + (if ([] : List Keyword).isEmpty then 0 else 1) < 30)) = true
  hline : (apos.endLine == cpos.line) = true
  he : ∀ j, starEach [e] (X j).env = (false, eval e (X j).env) :: starEach [] (X j).env
  hpl : ∀ j, (backTo cpos (starEach [] (X j).env)).any (·.1) = false
  hs : ∀ j, swapsWith (.Call (.Attribute (.Name x p1) nm apos) [e] [] cpos) none pos.line (X j).env = pure false
theorem fs_append (A : Amb Γ X) (i : Nat) {x : Str} {p1 apos cpos : Pos} {M bk ct : List Nat} (hN : ∀ j, (X j).N[i]? = some x) (hv : ∀ j, Vis (X j).env.scope x) (hm : M.contains i = true) (h : FE Γ X W M e .sh ga) (T : MTx X x p1 apos cpos pos "append" e)
    (hd : (x == ("__debug__" : Str)) = false := by decide) (hcd : (x == ("__classdict__" : Str)) = false := by decide) :
    FS Γ X W M ⟨M, bk, ct⟩ kr (.Expr (.Call (.Attribute (.Name x p1) "append" apos) [e] [] cpos) pos) (oLst i ga fApp) := by
  obtain ⟨t, p, ev⟩ := h.ex
  refine ⟨fun D σ H => tVar i σ H fun x H1 => tyV Γ.K "list" x H1 ∧ tCons t tNil σ H1 fun xs H2 => rAppend x xs H2 fun _ H3 => D.nx σ H3, fun j => ?_, fun F0 H0 F H σ ρ D E hp => ?_⟩
  · have := ps_expr (pos := pos) (pe_bm PySem.F.plainAttrs_list PySem.F.slot_list_append PySem.F.type_list_append mt_append (pe_var (hN j) (hv j) hd hcd) (pa_one (p j) (T.he j)) (T.hbase j) (T.hfew j) T.hline (T.he j) (T.hpl j)) (T.hs j)
    rw [A.K j] at this
    exact this
  · suffices q : ∀ p0, σ[i]? = some (some (.ref p0)) → (∃ p vs, σ[i]? = some (some (.ref p)) ∧ H p = some (.lst vs)) ∧ t σ H fun v H1 => rAppend (.ref p0) [v] H1 fun _ H3 => D.nx σ H3 by
      obtain ⟨p0, hp0⟩ : ∃ p0, σ[i]? = some (some (.ref p0)) := by
        have := (ev_oLst (K := fun _ _ => True) ev E hm hp fun _ _ _ _ _ _ _ _ _ _ _ _ _ _ _ _ => trivial).1
        exact ⟨_, this.choose_spec.choose_spec.1⟩
      obtain ⟨⟨p1, vs, h1, h2⟩, h3⟩ := q p0 hp0
      rw [hp0] at h1
      cases h1
      exact ⟨_, hp0, .inl ⟨rfl, _, SqL.of h2⟩, h3⟩
    intro p0 hp0
    refine ev_oLst ev E hm hp fun F1 H1 p vs ds v d ys s1 hv ho ho1 r rk hy fin => ?_
    rw [hp0] at hv
    cases hv
    unfold fApp at hy
    split at hy
    · rename_i hl
      cases hy
      exact ⟨p0, vs, v, rfl, rfl, ho1, by rw [r.length]; exact hl, fin _ (r.append (.cons rk .nil))⟩
    · cases hy
/-- x.extend(e) -/
def rExtendR : V → List V → Hp → VK → Prop := fun x vs H Q => ∃ l b xs zs, x = .ref l ∧ vs = [.ref b] ∧ H l = some (.lst xs) ∧ Rd H b (.lst zs) ∧ xs.length + zs.length ≤ sizeLine ∧ Q .non (upd H l (.lst (xs ++ zs)))
theorem mt_extendR {Y : Cx} : MtM Y "list.extend" rExtendR := by
  intro pins s σ H x vs v us Q I rx rv h
  obtain ⟨l, b, xs, zs, rfl, rfl, hH, hB, hz, q⟩ := h
  cases rx
  obtain ⟨u, rfl, ru⟩ := rv.one
  cases ru
  obtain ⟨z, its, n, r, hl, e⟩ := I.lstM hH
  obtain ⟨z2, its2, n2, r2, hl2, e2⟩ := lstR I hB
  have hsz : its.toArray.size + its2.toArray.size ≤ sizeLine := by rw [List.size_toArray, List.size_toArray]; omega
  have hlong : ¬ (!its.toArray.isEmpty && Builtin.List.listTooLong (its.toArray.size + its2.toArray.size)) = true := by
    rw [notLongL hsz, Bool.and_false]
    exact Bool.false_ne_true
  refine call_meets F.slot_list_extend ⟨_, e, rfl⟩ F.entry_list_extend (F.args_list_extend_2 _ _)
    (AutoSeq1.list_extend_list_list_0 l its.toArray n b its2.toArray n2 hlong (by rw [List.size_toArray]; omega) (by omega)) ⟨e, e2, ?_⟩
  refine ⟨.non, _, I.lset (its' := its ++ its2) hH e (by simp) (r.append r2) ?_, rfl, q⟩
  rw [List.length_append]
  omega
def fExt (xs : List D) (d : D) : Option (List D) := match d with
  | .lst ys => if xs.length + ys.length ≤ sizeLine then some (xs ++ ys) else none
  | _ => none
theorem fs_extend (A : Amb Γ X) (i : Nat) {x : Str} {p1 apos cpos : Pos} {M bk ct : List Nat} (hN : ∀ j, (X j).N[i]? = some x) (hv : ∀ j, Vis (X j).env.scope x) (hm : M.contains i = true) (h : FE Γ X W M e k ga) (T : MTx X x p1 apos cpos pos "extend" e)
    (hk : k ≠ .ob := by intro z; cases z) (hd : (x == ("__debug__" : Str)) = false := by decide) (hcd : (x == ("__classdict__" : Str)) = false := by decide) :
    FS Γ X W M ⟨M, bk, ct⟩ kr (.Expr (.Call (.Attribute (.Name x p1) "extend" apos) [e] [] cpos) pos) (oLst i ga fExt) := by
  obtain ⟨t, p, ev⟩ := (h.ov hk).ex
  refine ⟨fun D σ H => tVar i σ H fun x H1 => tyV Γ.K "list" x H1 ∧ tCons t tNil σ H1 fun xs H2 => rExtendR x xs H2 fun _ H3 => D.nx σ H3, fun j => ?_, fun F0 H0 F H σ ρ D E hp => ?_⟩
  · have := ps_expr (pos := pos) (pe_bm PySem.F.plainAttrs_list PySem.F.slot_list_extend PySem.F.type_list_extend mt_extendR (pe_var (hN j) (hv j) hd hcd) (pa_one (p j) (T.he j)) (T.hbase j) (T.hfew j) T.hline (T.he j) (T.hpl j)) (T.hs j)
    rw [A.K j] at this
    exact this
  · obtain ⟨p0, hp0⟩ : ∃ p0, σ[i]? = some (some (.ref p0)) := by
      have := (ev_oLst (K := fun _ _ => True) ev E hm hp fun _ _ _ _ _ _ _ _ _ _ _ _ _ _ _ _ => trivial).1
      exact ⟨_, this.choose_spec.choose_spec.1⟩
    have q : (∃ p vs, σ[i]? = some (some (.ref p)) ∧ H p = some (.lst vs)) ∧ t σ H fun v H1 => rExtendR (.ref p0) [v] H1 fun _ H3 => D.nx σ H3 := by
      refine ev_oLst ev E hm hp fun F1 H1 p vs ds v d ys s1 hv ho ho1 r rk hy fin => ?_
      rw [hp0] at hv
      cases hv
      unfold fExt at hy
      split at hy
      · split at hy
        · rename_i zs hl
          cases hy
          obtain ⟨b, ws, rfl, hb, rb⟩ := Rep1.lst s1 rk
          exact ⟨p0, b, vs, ws, rfl, rfl, ho1, hb, by rw [r.length, rb.length]; exact hl, fin _ (r.append rb)⟩
        · cases hy
      · cases hy
    obtain ⟨⟨p1, vs, h1, h2⟩, h3⟩ := q
    rw [hp0] at h1
    cases h1
    exact ⟨_, hp0, .inl ⟨rfl, _, SqL.of h2⟩, h3⟩
/-- x[j] = e -/
def setJ (xs : List D) (d : D) : D → Option (List D)
  | .int z => match ixN xs.length z with
    | some n => some (xs.set n d)
    | none => none
  | _ => none
def oSetIx (i : Nat) (ga gj : Ev0 → Res D) : Ev0 → Out := fun ρ => rOut (ga ρ) fun d => match ρ[i]? with
  | some (some (.lst xs)) => rOut (gj ρ) fun j => match setJ xs d j with
    | some ys => .nx (ρ.set i (some (.lst ys)))
    | none => .no
  | _ => .no
theorem fs_setIx (A : Amb Γ X) (i : Nat) {x : Str} {p1 p2 : Pos} {M bk ct : List Nat} {o : Expr} {kj : Kd} {gj : Ev0 → Res D} (hN : ∀ j, (X j).N[i]? = some x) (hv : ∀ j, Vis (X j).env.scope x) (hm : M.contains i = true) (h : FE Γ X W M e .sh ga) (hj : FE Γ X W M o kj gj)
    (hs : ∀ j, swapsWithSole [.Subscript (.Name x p1) o p2] e pos.line (X j).env = pure false) (hw : ∀ j, swappedStores [.Subscript (.Name x p1) o p2] e (X j).env = pure none)
    (h1 : ∀ j, (assignEach [.Subscript (.Name x p1) o p2] (X j).env).map (·.2) = [assign (.Subscript (.Name x p1) o p2) (X j).env])
    (ha : ∀ j v, assign (.Subscript (.Name x p1) o p2) (X j).env v = (do
      let ov ← holding [v] (eval (.Name x p1) (X j).env)
      let iv ← holding [v, ov] (eval o (X j).env)
      standAt p2
      holding [v, ov, iv] (setItem ov iv v)
      release [v, ov, iv] []))
    (hd : (x == ("__debug__" : Str)) = false := by decide) (hcd : (x == ("__classdict__" : Str)) = false := by decide) :
    FS Γ X W M ⟨M, bk, ct⟩ kr (.Assign [.Subscript (.Name x p1) o p2] e pos) (oSetIx i ga gj) := by
  obtain ⟨t, p, ev⟩ := h.ex
  obtain ⟨tj, pj, ej⟩ := hj.ob.ex
  refine ⟨_, fun j => ps_asg (p j) (pg_sub (pe_var (hN j) (hv j) hd hcd) (pj j) set_list (ha j)) (hs j) (hw j) (h1 j), fun F0 H0 F H σ ρ D E hp => ?_⟩
  show t σ H _
  refine EvG.out ev E hp fun d F1 H1 v e1 E1 r1 hp1 => ?_
  split at hp1
  · rename_i ds hd'
    obtain ⟨q, o', hv', h0, hf, ho, hh⟩ := E1.own hm hd'
    cases hh with
    | lst r =>
      rename_i vs
      refine ⟨_, hv', ?_⟩
      refine EvG.out ej E1 hp1 fun z F2 H2 w e2 E2 r2 hp2 => ?_
      split at hp2
      · rename_i ys hy
        obtain ⟨q', o2, hv2, h02, hf2, ho2, hh2⟩ := E2.own hm hd'
        rw [hv'] at hv2
        cases hv2
        unfold setJ at hy
        split at hy
        · split at hy
          · rename_i n hn
            cases hy
            refine ⟨q, vs, _, n, rfl, Rep.int_inv r2, e2.h _ _ ho, by rw [r.length]; exact hn, ?_⟩
            exact hp2 F2 _ σ (Same.refl F2) (E2.upd hm hd' hv' h0 hf2 (.lst (RepL.set (Rep.mono e2.f r1) n (r.mono e2.f))))
          · cases hy
        · cases hy
      · exact hp2.elim
  · exact hp1.elim
end
end FL
namespace FL
open PySem PySem.Spec PyProof.Rows L2
variable {Γ : Gx}
/-! ### targets -/
def TgOk (Γ : Gx) (M : List Nat) (is : List Nat) (t : TG) (b : D → Ev0 → Res Ev0) : Prop :=
  ∀ F0 H0 F H σ ρ v d ρ' (Q : L2.St → Hp → Prop), EO Γ F0 H0 F H M σ ρ → Rep Γ F v d → b d ρ = .ok ρ' →
    (∀ σ', EO Γ F0 H0 F H M σ' ρ' → (∀ vs, (∀ i ∈ is, i ∈ vs) → wipe σ' vs = wipe σ vs) → Q σ' H) → t v σ H Q
def TgsOk (Γ : Gx) (M : List Nat) (is : List Nat) (t : TGs) (b : List D → Ev0 → Res Ev0) : Prop :=
  ∀ F0 H0 F H σ ρ vs ds ρ' (Q : L2.St → Hp → Prop), EO Γ F0 H0 F H M σ ρ → RepL Γ F vs ds → b ds ρ = .ok ρ' →
    (∀ σ', EO Γ F0 H0 F H M σ' ρ' → (∀ vs, (∀ i ∈ is, i ∈ vs) → wipe σ' vs = wipe σ vs) → Q σ' H) → t vs σ H Q
structure FG {ι : Type} (Γ : Gx) (X : ι → Cx) (M is : List Nat) (e : Expr) (b : D → Ev0 → Res Ev0) : Prop where
  ex : ∃ t : TG, (∀ i, PG (X i) e t) ∧ TgOk Γ M is t b
structure FGs {ι : Type} (Γ : Gx) (X : ι → Cx) (M is : List Nat) (es : List Expr) (b : List D → Ev0 → Res Ev0) : Prop where
  ex : ∃ t : TGs, (∀ i, PGs (X i) es t) ∧ TgsOk Γ M is t b
theorem wipe_get (σ : L2.St) (j : Nat) : ∀ vs : List Nat, (wipe σ vs)[j]? = if j ∈ vs then (σ[j]?).map (fun _ => none) else σ[j]?
  | [] => by simp [wipe]
  | v :: vs => by
    unfold wipe
    by_cases h : v = j
    · subst h
      rw [if_pos List.mem_cons_self]
      by_cases hl : v < σ.length
      · rw [List.getElem?_set_self (by rw [wipe_length]; exact hl), List.getElem?_eq_getElem hl]
        rfl
      · rw [List.getElem?_eq_none (by rw [List.length_set, wipe_length]; omega), List.getElem?_eq_none (by omega)]
        rfl
    · rw [List.getElem?_set_ne h, wipe_get σ j vs]
      by_cases hj : j ∈ vs
      · rw [if_pos hj, if_pos (List.mem_cons_of_mem _ hj)]
      · rw [if_neg hj, if_neg (fun z => (List.mem_cons.mp z).elim (fun q => h q.symm) hj)]
theorem wipe_set {σ : L2.St} {i : Nat} {x : Option V} {vs : List Nat} (h : i ∈ vs) : wipe (σ.set i x) vs = wipe σ vs := by
  apply List.ext_getElem?
  intro j
  rw [wipe_get, wipe_get]
  by_cases hj : j ∈ vs
  · rw [if_pos hj, if_pos hj]
    by_cases e : i = j
    · subst e
      by_cases hl : i < σ.length
      · rw [List.getElem?_set_self hl, List.getElem?_eq_getElem hl]
        rfl
      · rw [List.getElem?_eq_none (by rw [List.length_set]; omega), List.getElem?_eq_none (by omega)]
    · rw [List.getElem?_set_ne e]
  · rw [if_neg hj, if_neg hj, List.getElem?_set_ne (fun z : i = j => hj (by rw [← z]; exact h))]
theorem wipe_wipe (σ : L2.St) (vs : List Nat) : wipe (wipe σ vs) vs = wipe σ vs := by
  apply List.ext_getElem?
  intro j
  rw [wipe_get, wipe_get]
  by_cases hj : j ∈ vs
  · rw [if_pos hj, if_pos hj]
    cases σ[j]? <;> rfl
  · rw [if_neg hj, if_neg hj]
section
variable {ι : Type} {X : ι → Cx} {W : WX} {M is js : List Nat} {e : Expr} {es : List Expr} {k kr : Kd} {pos : Pos}
def bName (i : Nat) : D → Ev0 → Res Ev0 := fun d ρ => .ok (ρ.set i (some d))
theorem fg_name (A : Amb Γ X) (i : Nat) {x : Str} (hi : ∀ j, (X j).N[i]? = some x) (hx : ∀ j, Loc (X j).env.scope x) (hm : M.contains i = false) (hf : ∀ j, (X j).fn x = true ∨ (X j).env.scope.names.lookup x = some .local) : FG Γ X M [i] (.Name x pos) (bName i) := by
  refine ⟨_, fun j => pg_name (A.nd j) (hi j) (hx j) (hf j), fun F0 H0 F H σ ρ v d ρ' Q E r hb q => ?_⟩
  cases hb
  refine q _ ?_ fun vs hv => wipe_set (hv i List.mem_cons_self)
  have E1 := E.set i r
  have e : M.filter (· != i) = M := by
    apply List.filter_eq_self.mpr
    intro a ha
    have : a ≠ i := fun z => by
      subst z
      have := List.contains_iff_mem.mpr ha
      rw [hm] at this
      cases this
    simp [this]
  rw [e] at E1
  exact E1
def bNil : List D → Ev0 → Res Ev0 := fun ds ρ => match ds with
  | [] => .ok ρ
  | _ => .no
def bCons (b : D → Ev0 → Res Ev0) (bs : List D → Ev0 → Res Ev0) : List D → Ev0 → Res Ev0 := fun ds ρ => match ds with
  | d :: r => match b d ρ with
    | .ok ρ1 => bs r ρ1
    | _ => .no
  | _ => .no
def bTup (n : Nat) (bs : List D → Ev0 → Res Ev0) : D → Ev0 → Res Ev0 := fun d ρ => match d with
  | .tup ds => if ds.length = n then bs ds ρ else .no
  | .ctup ds => if ds.length = n then bs ds ρ else .no
  | .lst ds => if ds.length = n then bs ds ρ else .no
  | _ => .no
theorem fgs_nil : FGs Γ X M [] [] bNil := ⟨_, fun _ => pgs_nil, fun F0 H0 F H σ ρ vs ds ρ' Q E r hb q => by
  unfold bNil at hb
  split at hb
  · cases hb
    cases r
    exact ⟨rfl, q _ E fun _ _ => rfl⟩
  · cases hb⟩
theorem fgs_cons {b : D → Ev0 → Res Ev0} {bs : List D → Ev0 → Res Ev0} (h1 : FG Γ X M is e b) (h2 : FGs Γ X M js es bs) (hs : ∀ i, (assignEach (e :: es) (X i).env).map (·.2) = assign e (X i).env :: (assignEach es (X i).env).map (·.2)) : FGs Γ X M (is ++ js) (e :: es) (bCons b bs) := by
  obtain ⟨t, p, g1⟩ := h1.ex
  obtain ⟨u, q, g2⟩ := h2.ex
  refine ⟨_, fun i => pgs_cons (p i) (q i) (hs i), fun F0 H0 F H σ ρ vs ds ρ' Q E r hb fin => ?_⟩
  unfold bCons at hb
  split at hb
  · rename_i d r'
    split at hb
    · rename_i ρ1 h1
      cases r with
      | cons rv rr =>
        refine ⟨_, _, rfl, g1 F0 H0 F H σ ρ _ d ρ1 _ E rv h1 fun σ1 E1 w1 => ?_⟩
        exact g2 F0 H0 F H σ1 ρ1 _ r' ρ' Q E1 rr hb fun σ2 E2 w2 => fin σ2 E2 fun vs hv => (w2 vs fun i hi => hv i (List.mem_append_right _ hi)).trans (w1 vs fun i hi => hv i (List.mem_append_left _ hi))
    · cases hb
  · cases hb
/-- a, b = a tuple or a list -/
def gSqs (K : PySem.W.Frag) (n : Nat) (t : TGs) : TG := fun v σ H Q => ∃ a xs, v = .ref a ∧ (SqT K H a xs ∨ SqL K H a xs) ∧ xs.length = n ∧ t xs σ H Q
theorem pg_sqs {X : Cx} {pos : Pos} {es : List Expr} {k : Nat} {t : TGs} {n : Nat} (hc : X.calm = true) (h : PGs X es t)
    (hn : (assignEach es X.env).length = n) (hst : (assignEach es X.env).findIdx? (·.1) = none) : PG X (.Tuple es k pos) (gSqs X.K n t) := by
  refine ⟨fun pins s σ H v u Q I r hw => ?_⟩
  obtain ⟨a, xs, e1, hq, hl, hw⟩ := hw
  rcases hq with hq | hq
  · exact (pg_tup (pos := pos) (k := k) hc h hn hst).run pins s σ H v u Q I r ⟨a, xs, e1, hq, hl, hw⟩
  · exact (pg_unl (pos := pos) (k := k) hc h hn hst).run pins s σ H v u Q I r ⟨a, xs, e1, hq, hl, hw⟩
theorem fg_tup (A : Amb Γ X) {kk n : Nat} {bs : List D → Ev0 → Res Ev0} (h : FGs Γ X M is es bs) (hn : ∀ i, (assignEach es (X i).env).length = n) (hst : ∀ i, (assignEach es (X i).env).findIdx? (·.1) = none) : FG Γ X M is (.Tuple es kk pos) (bTup n bs) := by
  obtain ⟨t, p, g1⟩ := h.ex
  refine ⟨gSqs Γ.K n t, fun i => ?_, fun F0 H0 F H σ ρ v d ρ' Q E r hb fin => ?_⟩
  · have := pg_sqs (pos := pos) (k := kk) (A.calm i) (p i) (hn i) (hst i)
    rw [A.K i] at this
    exact this
  · unfold bTup at hb
    split at hb
    · split at hb
      · rename_i ds hl
        cases r with
        | tup h1 r1 => exact ⟨_, _, rfl, .inl (h1.mono E.same).seqT, r1.length.trans hl, g1 F0 H0 F H σ ρ _ ds ρ' Q E r1 hb fin⟩
      · cases hb
    · split at hb
      · rename_i ds hl
        cases r with
        | ctup h1 r1 => exact ⟨_, _, rfl, .inl (h1 H), r1.length.trans hl, g1 F0 H0 F H σ ρ _ ds ρ' Q E r1 hb fin⟩
      · cases hb
    · split at hb
      · rename_i ds hl
        cases r with
        | lst h1 r1 => exact ⟨_, _, rfl, .inr (.inl (.inl (E.same _ _ h1))), r1.length.trans hl, g1 F0 H0 F H σ ρ _ ds ρ' Q E r1 hb fin⟩
      · cases hb
    · cases hb
/-- a, b = e -/
def oAsg (g : Ev0 → Res D) (b : D → Ev0 → Res Ev0) : Ev0 → Out := fun ρ => rOut (g ρ) fun d => match b d ρ with
  | .ok ρ' => .nx ρ'
  | _ => .no
theorem fs_asg {tg : Expr} {ga : Ev0 → Res D} {b : D → Ev0 → Res Ev0} {M bk ct : List Nat} (h : FE Γ X W M e .sh ga) (hg : FG Γ X M is tg b) (hs : ∀ i, swapsWithSole [tg] e pos.line (X i).env = pure false) (hw : ∀ i, swappedStores [tg] e (X i).env = pure none)
    (h1 : ∀ i, (assignEach [tg] (X i).env).map (·.2) = [assign tg (X i).env]) : FS Γ X W M ⟨M, bk, ct⟩ kr (.Assign [tg] e pos) (oAsg ga b) := by
  obtain ⟨t, p, ev⟩ := h.ex
  obtain ⟨u, q, g1⟩ := hg.ex
  refine ⟨_, fun i => ps_asg (p i) (q i) (hs i) (hw i) (h1 i), fun F0 H0 F H σ ρ D E hp => ?_⟩
  show t σ H _
  refine EvG.out ev E hp fun d F1 H1 v e1 E1 r1 hp1 => ?_
  split at hp1
  · rename_i ρ' hb
    exact g1 F0 H0 F1 H1 σ ρ v d ρ' _ E1 r1 hb fun σ' E' _ => hp1 F1 H1 σ' (Same.refl F1) E'
  · exact hp1.elim
/-! ### what is walked -/
def ItR (Γ : Gx) (F : Hp) (J : It) (ds : List D) : Prop := ∀ i F1 H1, Same F F1 → Same F1 H1 →
  (∀ d, ds[i]? = some d → J.go i H1 ∧ ∀ x H2, J.yld i H1 x H2 → ∃ F2, Ext F1 H1 F2 H2 ∧ Rep Γ F2 x d) ∧ (ds.length ≤ i → J.stop i H1)
abbrev RI (Γ : Gx) : RG (List D) It := fun _ F' _ J ds => ItR Γ F' J ds
structure FI {ι : Type} (Γ : Gx) (X : ι → Cx) (W : WX) (M : List Nat) (tg iter : Expr) (g : Ev0 → Res (List D)) : Prop where
  ex : ∃ wi : TI, (∀ i, PI (X i) tg iter wi) ∧ EvG Γ W M wi (RI Γ) g
/-- a list or a tuple that is shared -/
def iSeq (K : PySem.W.Frag) (tl : TE) : TI := fun σ H R => tl σ H fun x H1 => ∃ a, x = .ref a ∧ (((∃ xs, SqL K H1 a xs) ∧ R (Itl K a) H1) ∨ ((∃ xs, SqT K H1 a xs) ∧ R (Itt K a) H1))
theorem pi_seq {Y : Cx} {tg l : Expr} {tl : TE} (hl : PE Y l tl) : PI Y tg l (iSeq Y.K tl) := by
  refine ⟨fun pins s σ H R I h => ?_⟩
  refine thn (hl.run pins s σ H _ I h) fun v s1 ⟨x, H1, I1, r1, a, e, q⟩ => ?_
  subst e
  cases r1
  rcases q with ⟨⟨xs, hq⟩, q⟩ | ⟨⟨xs, hq⟩, q⟩
  · obtain ⟨its, rv, p, hz⟩ := I1.list hq
    refine wpAny_pyIter_list p.isList ?_
    refine ⟨s1.heap.objs.size, [s1.heap.objs.size], _, _, H1, rfl, I1.kept (t' := s1.toks) fun b o e => Heap.get?_push_of_some _ e, turn_list a _, ⟨_, Heap.get?_push_size _ rfl, rfl, rfl⟩, fun b hb => ?_, q⟩
    have e : b = s1.heap.objs.size := by simpa using hb
    subst e
    exact I1.fpOk (Nat.le_refl _) (I1.hok.fresh (Nat.le_refl _))
  · obtain ⟨its, rv, p, hz⟩ := I1.tuple hq
    refine wpAny_pyIter_tuple (show s1.heap.IsTuple a its.toArray from p) ?_
    refine ⟨s1.heap.objs.size, [s1.heap.objs.size], _, _, H1, rfl, I1.kept (t' := s1.toks) fun b o e => Heap.get?_push_of_some _ e, turn_tuple a _, ⟨_, Heap.get?_push_size _ rfl, rfl, rfl⟩, fun b hb => ?_, q⟩
    have e : b = s1.heap.objs.size := by simpa using hb
    subst e
    exact I1.fpOk (Nat.le_refl _) (I1.hok.fresh (Nat.le_refl _))
def gSeq (g : Ev0 → Res D) : Ev0 → Res (List D) := fun ρ => (g ρ).bind fun d => match d with
  | .lst ds => .ok ds
  | .tup ds => .ok ds
  | .scr ns => .ok (ns.map .int)
  | .ctup ds => .ok ds
  | _ => .no
theorem itl_R {F : Hp} {a : Addr} {xs : List V} {ds : List D} (h : SqL Γ.K F a xs) (r : RepL Γ F xs ds) : ItR Γ F (Itl Γ.K a) ds := fun i F1 H1 s1 s2 => by
  have h1 : SqL Γ.K H1 a xs := (s1.trans s2).seq h
  refine ⟨fun d hd => ?_, fun hl => ⟨xs, h1, by rw [r.length]; exact hl⟩⟩
  obtain ⟨v, hv, rv⟩ := r.get hd
  refine ⟨⟨xs, v, h1, hv⟩, fun x H2 y => ?_⟩
  obtain ⟨e, y⟩ := y
  subst e
  have := y xs h1
  rw [hv] at this
  cases this
  exact ⟨F1, Ext.refl s2, rv.mono s1⟩
theorem itt_R {F : Hp} {a : Addr} {xs : List V} {ds : List D} (h : SqT Γ.K F a xs) (r : RepL Γ F xs ds) : ItR Γ F (Itt Γ.K a) ds := fun i F1 H1 s1 s2 => by
  have h1 : SqT Γ.K H1 a xs := Same.seqT (s1.trans s2) h
  refine ⟨fun d hd => ?_, fun hl => ⟨xs, h1, by rw [r.length]; exact hl⟩⟩
  obtain ⟨v, hv, rv⟩ := r.get hd
  refine ⟨⟨xs, v, h1, hv⟩, fun x H2 y => ?_⟩
  obtain ⟨e, y⟩ := y
  subst e
  have := y xs h1
  rw [hv] at this
  cases this
  exact ⟨F1, Ext.refl s2, rv.mono s1⟩
theorem fi_seq (A : Amb Γ X) {tg : Expr} {ga : Ev0 → Res D} (h : FE Γ X W M e .sh ga) : FI Γ X W M tg e (gSeq ga) := by
  obtain ⟨t, p, ev⟩ := h.ex
  refine ⟨iSeq Γ.K t, fun i => by have := pi_seq (tg := tg) (p i); rw [A.K i] at this; exact this, fun F0 H0 F H σ ρ Q E hp => ?_⟩
  show t σ H _
  refine EvG.bind ev (fun _ _ _ _ _ _ _ h => h) E hp fun d F1 H1 x e1 E1 r1 hp1 => ?_
  have r1 : Rep Γ F1 x d := r1
  cases r1 with
  | lst h r => exact ⟨_, rfl, .inl ⟨⟨_, .inl (.inl (E1.same _ _ h))⟩, hp1 F1 H1 _ (Ext.refl E1.same) (itl_R (.inl (.inl h)) r)⟩⟩
  | scr h => exact ⟨_, rfl, .inl ⟨⟨_, E1.same.seq h⟩, hp1 F1 H1 _ (Ext.refl E1.same) (itl_R h (RepL.ints _))⟩⟩
  | tup h r => exact ⟨_, rfl, .inr ⟨⟨_, (h.mono E1.same).seqT⟩, hp1 F1 H1 _ (Ext.refl E1.same) (itt_R h.seqT r)⟩⟩
  | ctup h r => exact ⟨_, rfl, .inr ⟨⟨_, h H1⟩, hp1 F1 H1 _ (Ext.refl E1.same) (itt_R (h F1) r)⟩⟩
  | _ => exact hp1.elim
/-! #### ranges -/
def rngD (lo : Int) (n : Nat) : List D := (List.range n).map fun i => .int (lo + (i : Nat))
theorem itr_R {F : Hp} (lo : Int) (n : Nat) : ItR Γ F (Itr lo n) (rngD lo n) := fun i F1 H1 s1 s2 => by
  refine ⟨fun d hd => ?_, fun hl => by unfold rngD at hl; rw [List.length_map, List.length_range] at hl; exact hl⟩
  unfold rngD at hd
  rw [List.getElem?_map] at hd
  by_cases hi : i < n
  · rw [List.getElem?_range hi] at hd
    cases hd
    refine ⟨hi, fun x H2 y => ?_⟩
    obtain ⟨e, y⟩ := y
    subst e y
    exact ⟨F1, Ext.refl s2, .int _⟩
  · rw [List.getElem?_eq_none (by rw [List.length_range]; omega)] at hd
    cases hd
def rgOk (i : Int) : Bool := decide (-(2 ^ 62) ≤ i) && decide (i < 2 ^ 62)
def gRng1 (g : Ev0 → Res D) : Ev0 → Res (List D) := fun ρ => (g ρ).bind fun d => match d with
  | .int j => if rgOk j = true then .ok (rngD 0 j.toNat) else .no
  | _ => .no
def gRng2 (g h : Ev0 → Res D) : Ev0 → Res (List D) := fun ρ => (g ρ).bind fun d => (h ρ).bind fun e => match d, e with
  | .int i, .int j => .ok (rngD i (j - i).toNat)
  | _, _ => .no
theorem rgOk_iff {i : Int} : rgOk i = true ↔ -(2 ^ 62) ≤ i ∧ i < 2 ^ 62 := by unfold rgOk; simp
theorem fi_rng1 {tg a : Expr} {p : Pos} {ga : Ev0 → Res D} (hg : ∀ i, Gl (X i) "range") (hm : ∀ i, (X i).mg "range" = none) (h : FE Γ X W M a .sh ga) (hs : ∀ i, starEach [a] (X i).env = [(false, eval a (X i).env)]) (hs2 : ∀ i, starEach [a] (X i).env = (false, eval a (X i).env) :: starEach [] (X i).env) : FI Γ X W M tg (.Call (.Name "range" p) [a] [] pos) (gRng1 ga) := by
  obtain ⟨t, pe, ev⟩ := h.ex
  refine ⟨_, fun i => pi_range1 (hg i) (hm i) (pa_one (pe i) (hs2 i)) (hs i), fun F0 H0 F H σ ρ Q E hp => ?_⟩
  show t σ H _
  refine EvG.bind ev (fun _ _ _ _ _ _ _ h => h) E hp fun d F1 H1 x e1 E1 r1 hp1 => ?_
  have r1 : Rep Γ F1 x d := r1
  cases r1 with
  | int j =>
    by_cases hj : rgOk j = true
    · have hp1 : PostG Γ W F1 H1 σ (RI Γ) (if rgOk j = true then .ok (rngD 0 j.toNat) else .no) Q := hp1
      rw [if_pos hj] at hp1
      obtain ⟨h1, h2⟩ := rgOk_iff.mp hj
      exact ⟨j, rfl, h1, h2, hp1 F1 H1 _ (Ext.refl E1.same) (itr_R 0 _)⟩
    · have hp1 : PostG Γ W F1 H1 σ (RI Γ) (if rgOk j = true then .ok (rngD 0 j.toNat) else .no) Q := hp1
      rw [if_neg hj] at hp1
      exact hp1.elim
  | _ => exact hp1.elim
/-! ranges with ends of any size -/
theorem turn_long {P : Program} {w : World} {K : PySem.W.Frag} {tg : Expr} (it : Addr) (lo : Int) (n : Nat) : Turn P w K tg (Itr lo n) [it] it (fun i h => IsLongIter h it (lo + (i : Nat) * 1) ((n : Int) - (i : Nat)) 1) where
  mem := by simp
  obj := fun i h st b hb => by
    have e : b = it := by simpa using hb
    subst e
    exact ⟨_, st, fun v z => by
      have z' : Data.fields _ = Data.cell v := z
      cases z'⟩
  keep := fun i h h' st k => k it (by simp) _ st
  item := by
    intro X hP hw hK hc i pins s σ H E I hf st hg
    subst hP hw hK
    obtain ⟨f0, f1, f2, f3, f4, f5⟩ := hf it (by simp)
    have W := Walks.longrange (prog := X.prog) (w := X.w) (I.ok.hd hc) it lo 1 n
    refine W.item i s _ _ hg st fun v h' tk hv st' kk => ?_
    obtain ⟨t, rfl⟩ := hv
    have I1 : Inv X pins σ H { s with heap := h', toks := tk } := I.turned (fun b o hb e => kk b o (by simpa using hb) e) f0 f1 f3 f4 f5
    refine ⟨_, rfl, go_of (s := { s with heap := h', toks := tk }) (n := "longrange_iterator") st' rfl rfl (by decide) ⟨.int (lo + i), H, I1, ⟨t, ?_⟩, ⟨rfl, rfl⟩, st', fun b hb => (hf b hb).1⟩⟩
    rw [Int.mul_one]
  done := by
    intro X hP hw hK hc i pins s σ H E I hf st hg
    subst hP hw hK
    obtain ⟨f0, f1, f2, f3, f4, f5⟩ := hf it (by simp)
    exact wpAny_pyNext_long_end (I.ok.hd hc) st (by have : n ≤ i := hg; omega) fun h' eb => ⟨rfl, I.turned (t' := s.toks) (fun b o hb e => eb b o (fun h => hb (by simp [h])) e) f0 f1 f3 f4 f5⟩
  self := fun _ _ _ _ _ st h => wpAny_pyIter_longiter st h
theorem range_itX {X : Cx} {tg : Expr} {pins : List (Addr × Obj)} {σ : L2.St} {H : Hp} {s : Shared} {R : It → Hp → Prop} {E : Value → Shared → Prop} {lo hi : Int} {t u v : Tok} {tk : Nat} (I : Inv X pins σ H s)
    (q : R (Itr lo (hi - lo).toNat) H) : wpAny (model X.prog X.w) X.A (pyIter (.ref s.heap.objs.size)) (PIE X pins σ tg R) E { s with heap := s.heap.push { cls := .type "range", data := .fields #[.int lo t, .int hi u, .int 1 v] }, toks := tk } := by
  have I1 : Inv X pins σ H { s with heap := s.heap.push { cls := .type "range", data := .fields #[.int lo t, .int hi u, .int 1 v] }, toks := tk } := I.kept fun b o e => Heap.get?_push_of_some _ e
  have e1 : lo + ((0 : Nat) : Int) * 1 = lo := by simp
  have e2 : (((hi - lo).toNat : Nat) : Int) - ((0 : Nat) : Int) = Builtin.Range.rangeSize lo hi 1 := by rw [rangeSize_one]; split <;> omega
  cases hs : Builtin.Range.small lo hi 1 with
  | true =>
    refine wpAny_pyIter_range (IsRange.new ..) hs ?_
    refine ⟨(s.heap.push { cls := .type "range", data := .fields #[.int lo t, .int hi u, .int 1 v] }).objs.size, [(s.heap.push { cls := .type "range", data := .fields #[.int lo t, .int hi u, .int 1 v] }).objs.size], _, _, H, rfl,
      I1.kept (t' := tk) fun b o e => Heap.get?_push_of_some _ e, turn_range _ lo (hi - lo).toNat, ?_, fun b hb => ?_, q⟩
    · show IsRangeIter _ _ (lo + ((0 : Nat) : Int) * 1) ((((hi - lo).toNat : Nat) : Int) - ((0 : Nat) : Int)) 1
      rw [e1, e2]
      exact Heap.get?_push_size _ rfl
    · have e : b = (s.heap.push { cls := .type "range", data := .fields #[.int lo t, .int hi u, .int 1 v] }).objs.size := by simpa using hb
      subst e
      exact I1.fpOk (Nat.le_refl _) (I1.hok.fresh (Nat.le_refl _))
  | false =>
    refine wpAny_pyIter_longrange (IsRange.new ..) hs ?_
    refine ⟨(s.heap.push { cls := .type "range", data := .fields #[.int lo t, .int hi u, .int 1 v] }).objs.size, [(s.heap.push { cls := .type "range", data := .fields #[.int lo t, .int hi u, .int 1 v] }).objs.size], _, _, H, rfl,
      I1.kept (t' := tk) fun b o e => Heap.get?_push_of_some _ e, turn_long _ lo (hi - lo).toNat, ?_, fun b hb => ?_, q⟩
    · show IsLongIter _ _ (lo + ((0 : Nat) : Int) * 1) ((((hi - lo).toNat : Nat) : Int) - ((0 : Nat) : Int)) 1
      rw [e1, e2]
      exact Heap.get?_push_size _ rfl
    · have e : b = (s.heap.push { cls := .type "range", data := .fields #[.int lo t, .int hi u, .int 1 v] }).objs.size := by simpa using hb
      subst e
      exact I1.fpOk (Nat.le_refl _) (I1.hok.fresh (Nat.le_refl _))
def iRngX (ta : TA) : TI := fun σ H R => ta σ H fun vs H1 => ∃ i j : Int, vs = [.int i, .int j] ∧ R (Itr i (j - i).toNat) H1
theorem pi_rangeX {X : Cx} {tg : Expr} {a b : Expr} {ta : TA} {p pos : Pos} (hg : Gl X "range") (hm : X.mg "range" = none) (ha : PA X [a, b] ta) (hs : starEach [a, b] X.env = [(false, eval a X.env), (false, eval b X.env)]) (hs2 : starEach [b] X.env = [(false, eval b X.env)]) :
    PI X tg (.Call (.Name "range" p) [a, b] [] pos) (iRngX ta) := by
  refine ⟨fun pins s σ H R I h => ?_⟩
  refine Call_ (ld_blt I hg hm boot_range (PyProof.Rows.callWith_type1 (thn (ha.run pos pins s σ H _ I h) fun us s1 ⟨vs, H1, I1, r1, q1⟩ => ?_) (by rw [hs, hs2]) (by rw [hs2]; rfl)))
  obtain ⟨i, j, e, q⟩ := q1
  subst e
  cases r1 with
  | cons r rr =>
    cases rr with
    | cons r' rr =>
      cases rr
      obtain ⟨t, rfl⟩ := r
      obtain ⟨t', rfl⟩ := r'
      exact call_range_2 (range_itX I1 q)
theorem fi_rng2 {tg a b : Expr} {p : Pos} {ga gb : Ev0 → Res D} (hg : ∀ i, Gl (X i) "range") (hm : ∀ i, (X i).mg "range" = none) (h : FE Γ X W M a .sh ga) (h' : FE Γ X W M b .sh gb) (hs : ∀ i, starEach [a, b] (X i).env = [(false, eval a (X i).env), (false, eval b (X i).env)]) (hs2 : ∀ i, starEach [b] (X i).env = [(false, eval b (X i).env)])
    (hs3 : ∀ i, starEach [a, b] (X i).env = (false, eval a (X i).env) :: starEach [b] (X i).env) (hs4 : ∀ i, starEach [b] (X i).env = (false, eval b (X i).env) :: starEach [] (X i).env) : FI Γ X W M tg (.Call (.Name "range" p) [a, b] [] pos) (gRng2 ga gb) := by
  obtain ⟨t, pe, ev⟩ := h.ex
  obtain ⟨u, qe, ew⟩ := h'.ex
  refine ⟨_, fun i => pi_rangeX (hg i) (hm i) (pa_cons (pe i) (pa_one (qe i) (hs4 i)) (hs3 i)) (hs i) (hs2 i), fun F0 H0 F H σ ρ Q E hp => ?_⟩
  show t σ H _
  refine EvG.bind ev (fun _ _ _ _ _ _ _ h => h) E hp fun d F1 H1 x e1 E1 r1 hp1 => ?_
  show u σ H1 _
  refine EvG.bind ew (fun _ _ _ _ _ _ _ h => h) E1 hp1 fun d' F2 H2 y e2 E2 r2 hp2 => ?_
  have r1 : Rep Γ F1 x d := r1
  have r2 : Rep Γ F2 y d' := r2
  cases r1 with
  | int i =>
    cases r2 with
    | int j =>
      have hp2 : PostG Γ W F2 H2 σ (RI Γ) (.ok (rngD i (j - i).toNat)) Q := hp2
      exact ⟨i, j, rfl, hp2 F2 H2 _ (Ext.refl E2.same) (itr_R i _)⟩
    | _ => exact hp2.elim
  | _ =>
    cases r2 <;> exact hp2.elim
/-! ### for -/
def forO (b : D → Ev0 → Res Ev0) (body : Ev0 → Out) : List D → Ev0 → Out
  | [], ρ => .nx ρ
  | d :: ds, ρ => match b d ρ with
    | .ok ρ1 => match body ρ1 with
      | .nx ρ2 => forO b body ds ρ2
      | .ct ρ2 => forO b body ds ρ2
      | .bk ρ2 => .nx ρ2
      | o => o
    | _ => .no
def oFor (gi : Ev0 → Res (List D)) (b : D → Ev0 → Res Ev0) (body : Ev0 → Out) : Ev0 → Out := fun ρ => rOut (gi ρ) fun ds => forO b body ds ρ
theorem fs_for (A : Amb Γ X) {tg iter : Expr} {sts : List Stmt} {gi : Ev0 → Res (List D)} {b : D → Ev0 → Res Ev0} {body : Ev0 → Out} {M bk ct : List Nat} (hpo : ∀ i, PassesOwn (model (X i).prog (X i).w) (X i).A (X i).env (X i).xe)
    (hi : FI Γ X W M tg iter gi) (hg : FG Γ X M is tg b) (hb : FSs Γ X W M ⟨M, M, M⟩ kr sts body) (hs : ∀ i x, foldedSetIterable iter (X i).env x = pure x) : FS Γ X W M ⟨M, bk, ct⟩ kr (.For tg iter sts [] pos) (oFor gi b body) := by
  obtain ⟨wi, pi, ei⟩ := hi.ex
  obtain ⟨g, pg, eg⟩ := hg.ex
  obtain ⟨tb, pb, eb⟩ := hb.ex
  refine ⟨_, fun i => ps_for (hpo i) (A.calm i) (pi i) (pg i) (pb i) (hs i), fun F0 H0 F H σ ρ D E hp => ?_⟩
  show wi σ H _
  refine EvG.out ei E hp fun ds F1 H1 J e1 E1 rI hp1 => ?_
  generalize ho : forO b body ds ρ = out at hp1
  refine ⟨fun i n σ' H' => n = ds.length - i ∧ i ≤ ds.length ∧ ∃ F' ρ', EO Γ F0 H0 F' H' M σ' ρ' ∧ Same F1 F' ∧ forO b body (ds.drop i) ρ' = out, ⟨ds.length, by simp, Nat.zero_le _, F1, ρ, E1, Same.refl _, ho⟩, ?_⟩
  rintro i n σ' H' ⟨rfl, hil, F', ρ', E', s', hf⟩
  obtain ⟨hgo, hstop⟩ := rI i F' H' s' E'.same
  by_cases hlt : i < ds.length
  · refine .inr ?_
    have hdi : ds[i]? = some ds[i] := List.getElem?_eq_getElem hlt
    obtain ⟨go, hy⟩ := hgo _ hdi
    refine ⟨go, fun σ2 H2 => i + 1 ≤ ds.length ∧ ∃ F2 ρ2, EO Γ F0 H0 F2 H2 M σ2 ρ2 ∧ Same F1 F2 ∧ forO b body (ds.drop (i + 1)) ρ2 = out, fun σ2 H2 ⟨h1, h2⟩ => ⟨ds.length - (i + 1), by omega, rfl, h1, h2⟩, fun x H2 y => ?_⟩
    obtain ⟨F2, e2, rx⟩ := hy x H2 y
    have E2 := E'.extend e2
    rw [List.drop_eq_getElem_cons hlt] at hf
    unfold forO at hf
    cases hb : b (ds[i]) ρ' with
    | ex c => rw [hb] at hf; subst hf; exact hp1.elim
    | no => rw [hb] at hf; subst hf; exact hp1.elim
    | ok ρ1 =>
      rw [hb] at hf
      refine eg F0 H0 F2 H2 σ' ρ' x _ ρ1 _ E2 rx hb fun σ3 E3 _ => ?_
      dsimp only at hf
      refine eb F0 H0 F2 H2 σ3 ρ1 _ E3 ?_
      have sF : Same F1 F2 := s'.trans e2.f
      cases hbo : body ρ1 with
      | nx ρ2 =>
        rw [hbo] at hf
        exact fun F4 H4 σ4 s4 E4 => ⟨hlt, F4, ρ2, E4, sF.trans s4, hf⟩
      | ct ρ2 =>
        rw [hbo] at hf
        exact fun F4 H4 σ4 s4 E4 => ⟨hlt, F4, ρ2, E4, sF.trans s4, hf⟩
      | bk ρ2 =>
        rw [hbo] at hf
        subst hf
        exact fun F4 H4 σ4 s4 E4 => hp1 F4 H4 σ4 (sF.trans s4) E4
      | rt d => rw [hbo] at hf; subst hf; exact hp1
      | ex c => rw [hbo] at hf; subst hf; exact hp1
      | no => rw [hbo] at hf; subst hf; exact hp1
  · refine .inl ⟨hstop (by omega), ?_⟩
    have : ds.drop i = [] := List.drop_eq_nil_of_le (by omega)
    rw [this] at hf
    unfold forO at hf
    subst hf
    exact hp1 F' H' σ' s' E'
end
end FL
namespace FL
open PySem PySem.Spec PyProof.Rows L2
variable {Γ : Gx}
/-! ### while -/
def whileF (c : Ev0 → Res Bool) (b : Ev0 → Out) : Nat → Ev0 → Out
  | 0, _ => .no
  | n + 1, ρ => rOut (c ρ) fun t => if t = true then match b ρ with
    | .nx ρ' => whileF c b n ρ'
    | .ct ρ' => whileF c b n ρ'
    | .bk ρ' => .nx ρ'
    | o => o
    else .nx ρ
open Classical in
noncomputable def oWhile (c : Ev0 → Res Bool) (b : Ev0 → Out) : Ev0 → Out := fun ρ => if h : ∃ n, whileF c b n ρ ≠ .no then whileF c b h.choose ρ else .no
theorem whileF_mono (c : Ev0 → Res Bool) (b : Ev0 → Out) : ∀ (n : Nat) (ρ : Ev0), whileF c b n ρ ≠ .no → whileF c b (n + 1) ρ = whileF c b n ρ
  | 0, ρ, h => absurd rfl h
  | n + 1, ρ, h => by
    have ih := whileF_mono c b n
    unfold whileF at h
    show rOut (c ρ) _ = rOut (c ρ) _
    cases hc : c ρ with
    | ex x => rfl
    | no => rfl
    | ok t =>
      rw [hc] at h
      cases t with
      | false => rfl
      | true =>
        have h : (match b ρ with
          | .nx ρ' => whileF c b n ρ'
          | .ct ρ' => whileF c b n ρ'
          | .bk ρ' => .nx ρ'
          | o => o) ≠ Out.no := h
        show (match b ρ with
          | .nx ρ' => whileF c b (n + 1) ρ'
          | .ct ρ' => whileF c b (n + 1) ρ'
          | .bk ρ' => .nx ρ'
          | o => o) = (match b ρ with
          | .nx ρ' => whileF c b n ρ'
          | .ct ρ' => whileF c b n ρ'
          | .bk ρ' => .nx ρ'
          | o => o)
        cases hb : b ρ with
        | nx ρ' => rw [hb] at h; exact ih ρ' h
        | ct ρ' => rw [hb] at h; exact ih ρ' h
        | bk ρ' => rfl
        | rt d => rfl
        | ex x => rfl
        | no => rfl
theorem whileF_le (c : Ev0 → Res Bool) (b : Ev0 → Out) (ρ : Ev0) (n : Nat) (h : whileF c b n ρ ≠ .no) : ∀ k, whileF c b (n + k) ρ = whileF c b n ρ
  | 0 => rfl
  | k + 1 => by
    have ih := whileF_le c b ρ n h k
    show whileF c b (n + k + 1) ρ = _
    rw [whileF_mono c b (n + k) ρ (by rw [ih]; exact h), ih]
theorem oWhile_of {c : Ev0 → Res Bool} {b : Ev0 → Out} {ρ : Ev0} (n : Nat) {o : Out} (h : whileF c b n ρ = o) (ho : o ≠ .no) : oWhile c b ρ = o := by
  have hx : ∃ n, whileF c b n ρ ≠ .no := ⟨n, by rw [h]; exact ho⟩
  unfold oWhile
  rw [dif_pos hx]
  have h1 := whileF_le c b ρ n (by rw [h]; exact ho) hx.choose
  have h2 := whileF_le c b ρ hx.choose hx.choose_spec n
  rw [Nat.add_comm, h1, h] at h2
  exact h2.symm
theorem oWhile_ex {c : Ev0 → Res Bool} {b : Ev0 → Out} {ρ : Ev0} (h : oWhile c b ρ ≠ .no) : ∃ n, whileF c b n ρ = oWhile c b ρ := by
  unfold oWhile at h ⊢
  split at h
  · rename_i hx
    rw [dif_pos hx]
    exact ⟨_, rfl⟩
  · exact absurd rfl h
/-- one turn -/
theorem oWhile_eq (c : Ev0 → Res Bool) (b : Ev0 → Out) (ρ : Ev0) : oWhile c b ρ = rOut (c ρ) fun t => if t = true then match b ρ with
    | .nx ρ' => oWhile c b ρ'
    | .ct ρ' => oWhile c b ρ'
    | .bk ρ' => .nx ρ'
    | o => o
    else .nx ρ := by
  cases hc : c ρ with
  | ex x => exact oWhile_of 1 (by unfold whileF; rw [hc]; rfl) (fun z => nomatch z)
  | no =>
    cases ho : oWhile c b ρ with
    | no => rfl
    | _ =>
      obtain ⟨n, hn⟩ := oWhile_ex (c := c) (b := b) (ρ := ρ) (by rw [ho]; intro z; cases z)
      rw [ho] at hn
      cases n with
      | zero => unfold whileF at hn; cases hn
      | succ n => unfold whileF at hn; rw [hc] at hn; cases hn
  | ok t =>
    cases t with
    | false => exact oWhile_of 1 (by unfold whileF; rw [hc]; rfl) (fun z => nomatch z)
    | true =>
      show oWhile c b ρ = (match b ρ with
        | .nx ρ' => oWhile c b ρ'
        | .ct ρ' => oWhile c b ρ'
        | .bk ρ' => .nx ρ'
        | o => o)
      have step : ∀ n, whileF c b (n + 1) ρ = (match b ρ with
        | .nx ρ' => whileF c b n ρ'
        | .ct ρ' => whileF c b n ρ'
        | .bk ρ' => .nx ρ'
        | o => o) := fun n => by
        show rOut (c ρ) _ = _
        rw [hc]
        rfl
      have hrec : ∀ ρ', (∀ n, whileF c b (n + 1) ρ = whileF c b n ρ') → oWhile c b ρ = oWhile c b ρ' := fun ρ' hs => by
        cases ho : oWhile c b ρ' with
        | no =>
          cases ho2 : oWhile c b ρ with
          | no => rfl
          | _ =>
            obtain ⟨n, hn⟩ := oWhile_ex (c := c) (b := b) (ρ := ρ) (by rw [ho2]; intro z; cases z)
            rw [ho2] at hn
            cases n with
            | zero => unfold whileF at hn; cases hn
            | succ n =>
              rw [hs n] at hn
              rw [oWhile_of n hn (fun z => nomatch z)] at ho
              cases ho
        | _ =>
          obtain ⟨n, hn⟩ := oWhile_ex (c := c) (b := b) (ρ := ρ') (by rw [ho]; intro z; cases z)
          rw [ho] at hn
          exact oWhile_of (n + 1) ((hs n).trans hn) (fun z => nomatch z)
      cases hb : b ρ with
      | nx ρ' => exact hrec ρ' fun n => by rw [step n, hb]
      | ct ρ' => exact hrec ρ' fun n => by rw [step n, hb]
      | bk ρ' => exact oWhile_of 1 (by rw [step 0, hb]) (fun z => nomatch z)
      | rt d => exact oWhile_of 1 (by rw [step 0, hb]) (fun z => nomatch z)
      | ex x => exact oWhile_of 1 (by rw [step 0, hb]) (fun z => nomatch z)
      | no =>
        cases ho : oWhile c b ρ with
        | no => rfl
        | _ =>
          obtain ⟨n, hn⟩ := oWhile_ex (c := c) (b := b) (ρ := ρ) (by rw [ho]; intro z; cases z)
          rw [ho] at hn
          cases n with
          | zero => unfold whileF at hn; cases hn
          | succ n => rw [step n, hb] at hn; cases hn
section
variable {ι : Type} {X : ι → Cx} {W : WX} {M is js : List Nat} {e : Expr} {es : List Expr} {k kr ka : Kd} {pos : Pos} {ga : Ev0 → Res D}
theorem fs_while (A : Amb Γ X) {c : Expr} {sts : List Stmt} {f : Ev0 → Res Bool} {body : Ev0 → Out} {M bk ct : List Nat} (hpo : ∀ i, PassesOwn (model (X i).prog (X i).w) (X i).A (X i).env (X i).xe)
    (hc : FT Γ X W M c f) (hb : FSs Γ X W M ⟨M, M, M⟩ kr sts body) : FS Γ X W M ⟨M, bk, ct⟩ kr (.While c sts [] pos) (oWhile f body) := by
  obtain ⟨tc, pc, ec⟩ := hc.ex
  obtain ⟨tb, pb, eb⟩ := hb.ex
  refine ⟨_, fun i => ps_while (hpo i) (pc i) (pb i), fun F0 H0 F H σ ρ D E hp => ?_⟩
  generalize ho : oWhile f body ρ = out at hp
  have hno : out ≠ .no := fun z => by subst z; exact hp.elim
  obtain ⟨n0, hn0⟩ := oWhile_ex (c := f) (b := body) (ρ := ρ) (by rw [ho]; exact hno)
  rw [ho] at hn0
  refine ⟨fun n σ' H' => ∃ F' ρ', EO Γ F0 H0 F' H' M σ' ρ' ∧ Same F F' ∧ whileF f body n ρ' = out, ⟨n0, F, ρ, E, Same.refl F, hn0⟩, ?_⟩
  rintro n σ' H' ⟨F', ρ', E', s', hf⟩
  cases n with
  | zero => unfold whileF at hf; exact absurd hf.symm hno
  | succ n =>
    unfold whileF at hf
    refine ec F0 H0 F' H' σ' ρ' _ E' ?_
    cases hfr : f ρ' with
    | no => rw [hfr] at hf; exact absurd hf.symm hno
    | ex c =>
      rw [hfr] at hf
      have hf : Out.ex c = out := hf
      subst hf
      exact fun F1 H1 C e1 q => hp F1 H1 σ' C (E'.ext.trans e1) q
    | ok t =>
      intro F1 H1 x e1 r1
      subst r1
      have E1 := E'.extend e1
      have sF := s'.trans e1.f
      rw [hfr] at hf
      cases x with
      | false =>
        have hf : Out.nx ρ' = out := hf
        subst hf
        exact hp F1 H1 σ' sF E1
      | true =>
        have hf : (match body ρ' with
          | .nx ρ' => whileF f body n ρ'
          | .ct ρ' => whileF f body n ρ'
          | .bk ρ' => .nx ρ'
          | o => o) = out := hf
        refine iteT ⟨fun σ2 H2 => ∃ F2 ρ2, EO Γ F0 H0 F2 H2 M σ2 ρ2 ∧ Same F F2 ∧ whileF f body n ρ2 = out, fun σ2 H2 h => ⟨n, Nat.lt_succ_self n, h⟩, ?_⟩
        refine eb F0 H0 F1 H1 σ' ρ' _ E1 ?_
        cases hbo : body ρ' with
        | nx ρ2 =>
          rw [hbo] at hf
          exact fun F4 H4 σ4 s4 E4 => ⟨F4, ρ2, E4, sF.trans s4, hf⟩
        | ct ρ2 =>
          rw [hbo] at hf
          exact fun F4 H4 σ4 s4 E4 => ⟨F4, ρ2, E4, sF.trans s4, hf⟩
        | bk ρ2 =>
          rw [hbo] at hf
          have hf : Out.nx ρ2 = out := hf
          subst hf
          exact fun F4 H4 σ4 s4 E4 => hp F4 H4 σ4 (sF.trans s4) E4
        | rt d => rw [hbo] at hf; have hf : Out.rt d = out := hf; subst hf; exact hp
        | ex c => rw [hbo] at hf; have hf : Out.ex c = out := hf; subst hf; exact hp
        | no => rw [hbo] at hf; exact absurd hf.symm hno
/-! ### comprehensions -/
abbrev W0 : WX := fun _ _ _ _ => False
def wipeE (ρ : Ev0) : List Nat → Ev0
  | [] => ρ
  | v :: vs => (wipeE ρ vs).set v none
theorem wipeE_length (ρ : Ev0) : ∀ vs : List Nat, (wipeE ρ vs).length = ρ.length
  | [] => rfl
  | v :: vs => by unfold wipeE; rw [List.length_set, wipeE_length ρ vs]
theorem wipeE_some {ρ : Ev0} {i : Nat} {x : D} : ∀ {vs : List Nat}, (wipeE ρ vs)[i]? = some (some x) → ρ[i]? = some (some x) ∧ i ∉ vs
  | [], h => ⟨h, by simp⟩
  | v :: vs, h => by
    unfold wipeE at h
    by_cases hi : v = i
    · subst hi
      by_cases hv : v < (wipeE ρ vs).length
      · rw [List.getElem?_set_self hv] at h; cases h
      · rw [List.getElem?_eq_none (by simpa using hv)] at h; cases h
    · rw [List.getElem?_set_ne hi] at h
      obtain ⟨h1, h2⟩ := wipeE_some h
      exact ⟨h1, by simp only [List.mem_cons, not_or]; exact ⟨fun e => hi e.symm, h2⟩⟩
theorem EO.wipe {F0 H0 F H : Hp} {σ : L2.St} {ρ : Ev0} (E : EO Γ F0 H0 F H M σ ρ) (vs : List Nat) : EO Γ F0 H0 F H M (L2.wipe σ vs) (wipeE ρ vs) :=
  E.less (by rw [wipe_length, wipeE_length]; exact E.len) fun i d h => by
    obtain ⟨h1, h2⟩ := wipeE_some h
    exact ⟨h1, by rw [wipe_get, if_neg h2]⟩
def compO (vs : List Nat) (b : D → Ev0 → Res Ev0) (gt : Ev0 → Res Bool) (ge : Ev0 → Res D) (ρ : Ev0) : List D → Res (List D)
  | [] => .ok []
  | d :: ds => match b d (wipeE ρ vs) with
    | .ok ρ1 => match gt ρ1 with
      | .ok true => match ge ρ1, compO vs b gt ge ρ ds with
        | .ok y, .ok r => .ok (y :: r)
        | _, _ => .no
      | .ok false => compO vs b gt ge ρ ds
      | _ => .no
    | _ => .no
def gComp (vs : List Nat) (gi : Ev0 → Res (List D)) (b : D → Ev0 → Res Ev0) (gt : Ev0 → Res Bool) (ge : Ev0 → Res D) : Ev0 → Res D := fun ρ => (gi ρ).bind fun ds => match compO vs b gt ge ρ ds with
  | .ok r => if r.length ≤ sizeLine then .ok (.lst r) else .no
  | _ => .no
/-- what a comprehension does behind its source -/
def lcT (g : TG) (tt : TT) (te : TE) (vs : List Nat) (σ : L2.St) (Q : V → Hp → Prop) (J : It) (H1 : Hp) : Prop := ∀ L, H1 L = none → ∃ Wf : Nat → Nat → Hp → Prop, (∃ m, Wf 0 m (upd H1 L (.lst []))) ∧ ∀ i m H, Wf i m H →
  (J.stop i H ∧ Q (.ref L) H) ∨ (J.go i H ∧ ∃ Nx : Hp → Prop, (∀ H', Nx H' → ∃ m', m' < m ∧ Wf (i + 1) m' H') ∧ ∀ x H', J.yld i H x H' → g x (wipe σ vs) H' fun σ2 H2 => wipe σ2 vs = wipe σ vs ∧ tt σ2 H2 fun b H3 =>
    if b = true then te σ2 H3 fun y H4 => ∃ acc, H4 L = some (.lst acc) ∧ acc.length < sizeLine ∧ Nx (upd H4 L (.lst (acc ++ [y]))) else Nx H3)
theorem lc_tail {F0 H0 F1 H1 : Hp} {σ : L2.St} {ρ : Ev0} {J : It} {ds : List D} {Q : V → Hp → Prop} {g : TG} {tt : TT} {te : TE} {vs : List Nat} {b : D → Ev0 → Res Ev0} {gt : Ev0 → Res Bool} {ge : Ev0 → Res D} (hg : TgOk Γ M is g b) (hsub : ∀ i ∈ is, i ∈ vs)
    (ht : EvG Γ W0 M tt RB gt) (he : EvG Γ W0 M te (RE Γ .sh) ge) (E1 : EO Γ F0 H0 F1 H1 M σ ρ) (rI : ItR Γ F1 J ds)
    (hp1 : PostG Γ W F1 H1 σ (RE Γ .ow) (match compO vs b gt ge ρ ds with | .ok r => if r.length ≤ sizeLine then .ok (.lst r) else .no | _ => .no) Q) : lcT g tt te vs σ Q J H1 := by
  intro A hA
  cases hc : compO vs b gt ge ρ ds with
  | ex c => rw [hc] at hp1; exact hp1.elim
  | no => rw [hc] at hp1; exact hp1.elim
  | ok r =>
    rw [hc] at hp1
    by_cases hl : r.length ≤ sizeLine
    · have hp1 : PostG Γ W F1 H1 σ (RE Γ .ow) (if r.length ≤ sizeLine then .ok (.lst r) else .no) Q := hp1
      rw [if_pos hl] at hp1
      refine ⟨fun i n H' => n = ds.length - i ∧ i ≤ ds.length ∧ ∃ F' acc da r', Ext F1 H1 F' H' ∧ F' A = none ∧ H' A = some (.lst acc) ∧ RepL Γ F' acc da ∧ compO vs b gt ge ρ (ds.drop i) = .ok r' ∧ da ++ r' = r, ⟨ds.length, by simp, Nat.zero_le _, F1, [], [], r, Ext.own E1.same hA, E1.same.free hA, upd_same, .nil, hc, rfl⟩, ?_⟩
      rintro i n H' ⟨rfl, hil, F', acc, da, r', e', fA, hHA, ra, hr', hda⟩
      obtain ⟨hgo, hstop⟩ := rI i F' H' e'.f e'.i
      by_cases hlt : i < ds.length
      · refine .inr ?_
        obtain ⟨go, hy⟩ := hgo _ (List.getElem?_eq_getElem hlt)
        refine ⟨go, fun H2 => i + 1 ≤ ds.length ∧ ∃ F' acc da r', Ext F1 H1 F' H2 ∧ F' A = none ∧ H2 A = some (.lst acc) ∧ RepL Γ F' acc da ∧ compO vs b gt ge ρ (ds.drop (i + 1)) = .ok r' ∧ da ++ r' = r, fun H2 ⟨h1, h2⟩ => ⟨ds.length - (i + 1), by omega, rfl, h1, h2⟩, fun x H2 y => ?_⟩
        obtain ⟨F2, e2, rx⟩ := hy x H2 y
        rw [List.drop_eq_getElem_cons hlt] at hr'
        unfold compO at hr'
        cases hb : b (ds[i]) (wipeE ρ vs) with
        | ex c => rw [hb] at hr'; cases hr'
        | no => rw [hb] at hr'; cases hr'
        | ok ρ1 =>
          rw [hb] at hr'
          dsimp only at hr'
          have E2 := (E1.extend (e'.trans e2)).wipe vs
          have keepA : ∀ {F3 H3 : Hp}, Ext F' H' F3 H3 → F3 A = none ∧ H3 A = some (.lst acc) := fun {F3 H3} e3 => by
            refine ⟨?_, e3.h _ _ hHA⟩
            cases z : F3 A with
            | none => rfl
            | some u =>
              rcases e3.n _ _ z with ⟨w, y⟩ | y | ⟨xs, y⟩
              · rw [fA] at y; cases y
              · rw [hHA] at y; cases y
              · rw [hHA] at y; cases y
          refine hg F0 H0 F2 H2 _ _ x _ ρ1 _ E2 rx hb fun σ3 E3 w3 => ?_
          refine ⟨(w3 vs hsub).trans (wipe_wipe σ vs), ?_⟩
          refine ht F0 H0 F2 H2 σ3 ρ1 _ E3 ?_
          cases htt : gt ρ1 with
          | ex c => rw [htt] at hr'; cases hr'
          | no => rw [htt] at hr'; cases hr'
          | ok t =>
            intro F3 H3 t' e3 et
            subst et
            have e13 := (e'.trans e2).trans e3
            rw [htt] at hr'
            cases t' with
            | false =>
              obtain ⟨a1, a2⟩ := keepA (e2.trans e3)
              exact iteF ⟨hlt, F3, acc, da, r', e13, a1, a2, ra.mono (e2.f.trans e3.f), hr', hda⟩
            | true =>
              refine iteT ?_
              refine he F0 H0 F3 H3 σ3 ρ1 _ (E3.extend e3) ?_
              cases hge : ge ρ1 with
              | ex c => rw [hge] at hr'; cases hr'
              | no => rw [hge] at hr'; cases hr'
              | ok yd =>
                rw [hge] at hr'
                dsimp only at hr'
                cases hre : compO vs b gt ge ρ (ds.drop (i + 1)) with
                | ex c => rw [hre] at hr'; cases hr'
                | no => rw [hre] at hr'; cases hr'
                | ok r2 =>
                  rw [hre] at hr'
                  have hr' : Res.ok (yd :: r2) = Res.ok r' := hr'
                  cases hr'
                  intro F4 H4 yv e4 ry
                  obtain ⟨a1, a2⟩ := keepA ((e2.trans e3).trans e4)
                  have e14 := e13.trans e4
                  refine ⟨acc, a2, ?_, hlt, F4, acc ++ [yv], da ++ [yd], r2, ?_, a1, upd_same, (ra.mono ((e2.f.trans e3.f).trans e4.f)).append (.cons ry .nil), hre.symm ▸ rfl, by rw [List.append_assoc]; exact hda⟩
                  · have l1 := ra.length
                    have l2 : (da ++ yd :: r2).length = r.length := by rw [hda]
                    rw [List.length_append, List.length_cons] at l2
                    omega
                  · refine ⟨e14.f, fun b' x' z => ?_, fun b' x' z => ?_, e14.n⟩
                    · rw [upd_ne (ne_of_none z hA)]
                      exact e14.h _ _ z
                    · rw [upd_ne (ne_of_none z a1)]
                      exact e14.i _ _ z
      · refine .inl ⟨hstop (by omega), ?_⟩
        have hd0 : ds.drop i = [] := List.drop_eq_nil_of_le (by omega)
        rw [hd0] at hr'
        unfold compO at hr'
        cases hr'
        rw [List.append_nil] at hda
        subst hda
        exact hp1 F' H' _ e' ⟨A, _, rfl, hA, fA, hHA, .lst ra⟩
    · have hp1 : PostG Γ W F1 H1 σ (RE Γ .ow) (if r.length ≤ sizeLine then .ok (.lst r) else .no) Q := hp1
      rw [if_neg hl] at hp1
      exact hp1.elim
theorem ev_lc {wi : TI} {g : TG} {tt : TT} {te : TE} {vs : List Nat} {gi : Ev0 → Res (List D)} {b : D → Ev0 → Res Ev0} {gt : Ev0 → Res Bool} {ge : Ev0 → Res D} (hi : EvG Γ W M wi (RI Γ) gi) (hg : TgOk Γ M is g b) (hsub : ∀ i ∈ is, i ∈ vs)
    (ht : EvG Γ W0 M tt RB gt) (he : EvG Γ W0 M te (RE Γ .sh) ge) : EvG Γ W M (tLc wi g tt te vs) (RE Γ .ow) (gComp vs gi b gt ge) := fun F0 H0 F H σ ρ Q E hp => by
  show wi σ H _
  exact EvG.bind hi RE.mono E hp fun ds F1 H1 J e1 E1 rI hp1 => lc_tail hg hsub ht he E1 rI hp1
/-- the contexts of a comprehension's block -/
abbrev Blk (X : ι → Cx) (sc : Scope) : (ι × Shared × Hp × Addr × List (Str × Addr) × List Addr) → Cx := fun j => (X j.1).blk j.2.1 j.2.2.1 sc (compEnvC sc j.2.2.2.2.1 j.2.2.2.1 (X j.1).env) j.2.2.2.2.2
theorem Amb.blk (A : Amb Γ X) (sc : Scope) : Amb Γ (Blk X sc) := ⟨fun j => A.K j.1, fun j => A.calm j.1, fun j => A.nd j.1, fun j => A.un j.1, fun j => A.un2 j.1⟩
structure FTs {ι : Type} (Γ : Gx) (X : ι → Cx) (W : WX) (M : List Nat) (es : List Expr) (g : Ev0 → Res Bool) : Prop where
  ex : ∃ t : TT, (∀ i, PTs (X i) es t) ∧ EvG Γ W M t RB g
def gYes : Ev0 → Res Bool := fun _ => .ok true
theorem fts_nil : FTs Γ X W M [] gYes := ⟨_, fun _ => pts_nil, fun F0 H0 F H σ ρ Q E hp => hp F H true (Ext.refl E.same) rfl⟩
theorem fts_one {c : Expr} {f : Ev0 → Res Bool} (h : FT Γ X W M c f) : FTs Γ X W M [c] f := by
  obtain ⟨t, p, ev⟩ := h.ex
  exact ⟨_, fun i => pts_one (p i), ev⟩
variable {elt tg iter : Expr} {ifs : List Expr} {sc : Scope} {own : List (Str × Nat)} {gi : Ev0 → Res (List D)} {b : D → Ev0 → Res Ev0} {gt : Ev0 → Res Bool} {ge : Ev0 → Res D}
theorem fe_lc (A : Amb Γ X) (own : List (Str × Nat)) (hi : FI Γ X W M tg iter gi) (ok : ∀ i, BlkOk (X i).N (X i).env.scope sc own) (hg : FG Γ (Blk X sc) M is tg b) (ht : FTs Γ (Blk X sc) W0 M ifs gt) (he : FE Γ (Blk X sc) W0 M elt .sh ge)
    (hsub : ∀ i ∈ is, i ∈ own.map (·.2)) (hs : ∀ i x, foldedSetIterable iter (X i).env x = pure x) : FE Γ X W M (.ListComp elt [⟨tg, iter, ifs, 0⟩] sc pos) .ow (gComp (own.map (·.2)) gi b gt ge) := by
  obtain ⟨wi, pi, ei⟩ := hi.ex
  obtain ⟨g, pg, eg⟩ := hg.ex
  obtain ⟨tt, pt, et⟩ := ht.ex
  obtain ⟨te, pe, ee⟩ := he.ex
  exact ⟨_, fun i => pe_lc (A.calm i) (A.nd i) (pi i) (ok i) (fun s H C cl fp => pg ⟨i, s, H, C, cl, fp⟩) (fun s H C cl fp => pt ⟨i, s, H, C, cl, fp⟩) (fun s H C cl fp => pe ⟨i, s, H, C, cl, fp⟩) (hs i), ev_lc ei eg hsub et ee⟩
/-- y = [..] -/
theorem fs_setLc (A : Amb Γ X) (n : Nat) {y : Str} {py spos : Pos} {m : Mds} (own : List (Str × Nat)) (hy : ∀ i, (X i).N[n]? = some y) (hyl : ∀ i, (X i).env.scope.names.lookup y = some .local)
    (hsw : ∀ i, swapsWith (.ListComp elt [⟨tg, iter, ifs, 0⟩] sc pos) (some (.Name y py)) spos.line (X i).env = pure true)
    (hi : FI Γ X W M tg iter gi) (ok : ∀ i, BlkOk (X i).N (X i).env.scope sc own) (hg : FG Γ (Blk X sc) M is tg b) (ht : FTs Γ (Blk X sc) W0 M ifs gt) (he : FE Γ (Blk X sc) W0 M elt .sh ge)
    (hsub : ∀ i ∈ is, i ∈ own.map (·.2)) (hs : ∀ i x, foldedSetIterable iter (X i).env x = pure x) : FS Γ X W M ⟨n :: M.filter (· != n), m.bk, m.ct⟩ kr (.Assign [.Name y py] (.ListComp elt [⟨tg, iter, ifs, 0⟩] sc pos) spos) (oSet n (gComp (own.map (·.2)) gi b gt ge)) := by
  obtain ⟨wi, pi, ei⟩ := hi.ex
  obtain ⟨g, pg, eg⟩ := hg.ex
  obtain ⟨tt, pt, et⟩ := ht.ex
  obtain ⟨te, pe, ee⟩ := he.ex
  refine ⟨_, fun i => ps_setLc (A.calm i) (A.nd i) (hy i) (hyl i) (hsw i) (pi i) (ok i) (fun s H C cl fp => pg ⟨i, s, H, C, cl, fp⟩) (fun s H C cl fp => pt ⟨i, s, H, C, cl, fp⟩) (fun s H C cl fp => pe ⟨i, s, H, C, cl, fp⟩) (hs i), fun F0 H0 F H σ ρ D E hp => ?_⟩
  show tLc wi g tt te (own.map (·.2)) σ H _
  refine EvG.out (ev_lc ei eg hsub et ee) E hp fun d F1 H1 v e1 E1 r1 hp1 => ?_
  obtain ⟨q, o, rfl, hn, hf, ho, hh⟩ := r1
  exact hp1 F1 H1 _ (Same.refl F1) (E.setO e1 n hn hf ho hh)
/-! ### a def's body -/
def fnG (n : Nat) (k : Kd) (body : Ev0 → Out) : List D → Res D := fun ds => match body (ds.map some ++ List.replicate (n - ds.length) none) with
  | .nx _ => match k with
    | .sh => .ok .non
    | _ => .no
  | .rt d => .ok d
  | .ex c => .ex c
  | _ => .no
theorem eo_start {F H : Hp} {N : List Str} {vs : List V} {ds : List D} (s : Same F H) (r : RepL Γ F vs ds) : EO Γ F H F H [] (L2.start N vs) (ds.map some ++ List.replicate (N.length - ds.length) none) := by
  have l := r.length
  refine ⟨by unfold L2.start; simp [l], Ext.refl s, fun i d h => ?_, fun i j p d e hij h1 => by cases h1⟩
  have hi : i < ds.length := by
    cases z : decide (i < ds.length) with
    | true => exact of_decide_eq_true z
    | false =>
      have z := of_decide_eq_false z
      rw [List.getElem?_append_right (by rw [List.length_map]; omega), List.getElem?_replicate] at h
      split at h <;> cases h
  rw [List.getElem?_append_left (by rw [List.length_map]; exact hi), List.getElem?_map] at h
  cases hd : ds[i]? with
  | none => rw [hd] at h; cases h
  | some d' =>
    rw [hd] at h
    cases h
    obtain ⟨v, hv, rv⟩ := r.get hd
    refine ⟨v, ?_, rv⟩
    unfold L2.start
    rw [List.getElem?_append_left (by rw [List.length_map, l]; exact hi), List.getElem?_map, hv]
    rfl
theorem fn_ok {P : Program} {w : World} {K : PySem.W.Frag} {mg : Str → Option Value} {base : Heap} {ct : Str → Option Addr} {x qual : Str} {st : Stmt} {f : Addr} {fd : FuncData} {N ps : List Str} {kk : Nat} {M' : List Nat} {g : Ev0 → Out} (Fn : Fun K x qual st f fd) (S : FnScope N ps (defScope st))
    (hbody : ∀ (cdv : Value) (A : Around) (outer : List Env) (s : Shared) (H : Hp) (E : XK), Room kk (A.deeper (envOfC qual (defScope st) s.heap.objs.size f cdv)) →
      FSs ⟨K, ct⟩ (fun _ : Unit => cxOf (L2.CX P w) P w K mg base N qual (defScope st) f cdv A outer s H E) (fun cls d _ H' => E cls d H') [] ⟨M', [], []⟩ kr (defBody st) g) :
    FnOk P w K mg base (L2.CX P w) (kk + 1) f fd ps (spF ⟨K, ct⟩ ps.length kr (fnG N.length kr g)) := by
  refine Fn.okX S (fun vs H Q E h => ?_) (fun cdv A outer s H vs Q E hr h => ?_)
  · obtain ⟨F, ds, _, r, hl, _⟩ := h
    rw [r.length, hl]
  · obtain ⟨t, p, sv⟩ := (hbody cdv A outer s H E hr).ex
    refine ⟨t, p (), ?_⟩
    obtain ⟨F, ds, s1, r, hl, hp⟩ := h
    refine sv F H F H (L2.start N vs) (ds.map some ++ List.replicate (N.length - ds.length) none) _ (eo_start s1 r) ?_
    unfold fnG at hp
    cases hb : g (ds.map some ++ List.replicate (N.length - ds.length) none) with
    | nx ρ =>
      rw [hb] at hp
      cases kr with
      | sh => exact fun F' H' σ' _ E' => hp F' H' _ E'.ext .non
      | ow => exact hp.elim
      | ov => exact hp.elim
      | ob => exact hp.elim
    | rt d => rw [hb] at hp; exact hp
    | bk ρ => rw [hb] at hp; exact hp.elim
    | ct ρ => rw [hb] at hp; exact hp.elim
    | ex c => rw [hb] at hp; exact fun F' H' σ' C e q => hp F' H' C e q
    | no => rw [hb] at hp; exact hp.elim
end
end FL
namespace FL
open PySem PySem.Spec PyProof.Rows L2
variable {Γ : Gx}
/-! ### built-ins -/
section
variable {ι : Type} {X : ι → Cx} {W : WX} {M is js : List Nat} {e a b : Expr} {k kr ka kb : Kd} {pos p : Pos} {ga gb : Ev0 → Res D}
/-- what the text of a call f(e) gives -/
structure C1x {ι : Type} (X : ι → Cx) (x : Str) (e : Expr) (pos : Pos) : Prop where
  g : ∀ i, Gl (X i) x
  m : ∀ i, (X i).mg x = none
  he : ∀ i, starEach (e :: []) (X i).env = (false, eval e (X i).env) :: starEach [] (X i).env
  hpl : ∀ i, (backTo pos (starEach [] (X i).env)).any (·.1) = false
structure C2x {ι : Type} (X : ι → Cx) (x : Str) (a b : Expr) (pos : Pos) : Prop where
  g : ∀ i, Gl (X i) x
  m : ∀ i, (X i).mg x = none
  he : ∀ i, starEach (a :: [b]) (X i).env = (false, eval a (X i).env) :: starEach [b] (X i).env
  he2 : ∀ i, starEach (b :: []) (X i).env = (false, eval b (X i).env) :: starEach [] (X i).env
  hpl : ∀ i, (backTo pos (starEach [b] (X i).env)).any (·.1) = false
def lenD : D → Res D
  | .lst xs => .ok (.int xs.length)
  | .scr ns => .ok (.int ns.length)
  | .tup xs => .ok (.int xs.length)
  | .str s => if s.length ≤ sizeLine then .ok (.int s.length) else .no
  | .dK kvs => .ok (.int kvs.length)
  | .dT kvs => .ok (.int kvs.length)
  | _ => .no
theorem d_lenT {X : Cx} {pins : List (Addr × Obj)} {σ : L2.St} {H : Hp} {s : Shared} {a : Addr} {kvs : List (List Key × V)} {A : Around} {E : Value → Shared → Prop} {Q : Value → Shared → Prop} (I : Inv X pins σ H s) (e : Rd H a (.dT kvs)) (h : ∀ t s', Inv X pins σ H s' → Q (.int kvs.length t) s') : wpAny (model X.prog X.w) A (call (.builtin "len") [.ref a]) Q E s := by
  obtain ⟨z, hd, ys, rel, dd⟩ := dt_rd I.hok e
  have hl : kvs.length = ys.length := Paired.length rel
  refine call_len_dictH hd dd (by rw [← hl]; rw [sizeLine_eq] at z; omega) ?_
  rw [← hl]
  exact h _ _ (I.tok _)
theorem call_lenA {Y : Cx} (h : Y.K = Γ.K) : CallR Y (.builtin "len") (fun xs H Q => (∃ x n, xs = [x] ∧ LenV Γ.K x H n ∧ Q (.int n) H) ∨ (∃ d kvs, xs = [V.ref d] ∧ Rd H d (.dK kvs) ∧ Q (.int kvs.length) H) ∨ ∃ d kvs, xs = [V.ref d] ∧ Rd H d (.dT kvs) ∧ Q (.int kvs.length) H) := by
  rw [← h]
  intro pins s σ H xs us Q I r q
  rcases q with q | ⟨d, kvs, rfl, hd, q⟩ | ⟨d, kvs, rfl, hd, q⟩
  · exact call_len pins s σ H xs us Q I r q
  · obtain ⟨u, rfl, ru⟩ := vals1 r
    cases ru
    exact d_len I hd fun t s' I' => ⟨.int _, H, I', ⟨_, rfl⟩, q⟩
  · obtain ⟨u, rfl, ru⟩ := vals1 r
    cases ru
    exact d_lenT I hd fun t s' I' => ⟨.int _, H, I', ⟨_, rfl⟩, q⟩
theorem fe_len (A : Amb Γ X) (T : C1x X "len" e pos) (h : FE Γ X W M e ka ga) : FE Γ X W M (.Call (.Name "len" p) [e] [] pos) .sh (g1 ga lenD) :=
  fe_cb1 (r := fun Γ xs H Q => (∃ x n, xs = [x] ∧ LenV Γ.K x H n ∧ Q (.int n) H) ∨ (∃ d kvs, xs = [V.ref d] ∧ Rd H d (.dK kvs) ∧ Q (.int kvs.length) H) ∨ ∃ d kvs, xs = [V.ref d] ∧ Rd H d (.dT kvs) ∧ Q (.int kvs.length) H) (fun i => call_lenA (A.K i)) (fun W F H σ Q x d s r0 hp => by
    have r0 : Rep Γ H x d := r0
    unfold lenD at hp
    cases r0 with
    | lst h r => exact .inl ⟨_, _, rfl, .inl ⟨_, .inl (.inl h), rfl⟩, by rw [r.length]; exact hp F H _ (Ext.refl s) (.int _)⟩
    | tup h r => exact .inl ⟨_, _, rfl, .inr ⟨_, h.seqT, rfl⟩, by rw [r.length]; exact hp F H _ (Ext.refl s) (.int _)⟩
    | scr h => exact .inl ⟨_, _, rfl, .inl ⟨_, h, rfl⟩, by rw [List.length_map]; exact hp F H _ (Ext.refl s) (.int _)⟩
    | str z =>
      dsimp only at hp
      by_cases hl : z.length ≤ sizeLine
      · rw [if_pos hl] at hp
        exact .inl ⟨_, _, rfl, ⟨hl, rfl⟩, hp F H _ (Ext.refl s) (.int _)⟩
      · rw [if_neg hl] at hp
        exact hp.elim
    | dK h k r =>
      rename_i a kvs ds
      have e : kvs.length = ds.length := by
        have := congrArg List.length k
        rw [List.length_map, List.length_map] at this
        exact this
      exact .inr (.inl ⟨_, _, rfl, h, by rw [e]; exact hp F H _ (Ext.refl s) (.int _)⟩)
    | dT h k r =>
      rename_i a kvs ds
      have e : kvs.length = ds.length := by
        have := congrArg List.length k
        rw [List.length_map, List.length_map] at this
        exact this
      exact .inr (.inr ⟨_, _, rfl, h, by rw [e]; exact hp F H _ (Ext.refl s) (.int _)⟩)
    | _ => exact hp.elim) T.g T.m PySem.boot_len h.ob T.he T.hpl
def absD : D → Res D
  | .int i => .ok (.int (if i < 0 then -i else i))
  | _ => .no
theorem fe_abs (T : C1x X "abs" e pos) (h : FE Γ X W M e ka ga) : FE Γ X W M (.Call (.Name "abs" p) [e] [] pos) .sh (g1 ga absD) :=
  fe_cb1 (r := fun _ => _) (fun _ => call_abs) (fun W F H σ Q x d s r hp => by
    unfold absD at hp
    split at hp
    · exact ⟨_, by rw [Rep.int_inv r], hp F H _ (Ext.refl s) (.int _)⟩
    · exact hp.elim) T.g T.m (by decide +kernel) h.ob T.he T.hpl
def intD : D → Res D
  | .int i => .ok (.int i)
  | .bl b => .ok (.int (if b = true then 1 else 0))
  | _ => .no
theorem fe_intOf (T : C1x X "int" e pos) (h : FE Γ X W M e ka ga) : FE Γ X W M (.Call (.Name "int" p) [e] [] pos) .sh (g1 ga intD) :=
  fe_ct1 (r := fun _ => _) (fun _ => call_int1) (fun W F H σ Q x d s r hp => by
    have r : Rep Γ H x d := r
    unfold intD at hp
    cases r with
    | int i => exact .inl ⟨_, rfl, hp F H _ (Ext.refl s) (.int _)⟩
    | bl b => exact .inr ⟨_, rfl, hp F H _ (Ext.refl s) (.int _)⟩
    | _ => exact hp.elim) T.g T.m (by decide +kernel) h.ob T.he T.hpl
def maxD : D → D → Res D
  | .int i, .int j => .ok (.int (if j > i then j else i))
  | _, _ => .no
def minD : D → D → Res D
  | .int i, .int j => .ok (.int (if j < i then j else i))
  | _, _ => .no
theorem fe_max2 (A : Amb Γ X) (T : C2x X "max" a b pos) (h : FE Γ X W M a ka ga) (h' : FE Γ X W M b kb gb) : FE Γ X W M (.Call (.Name "max" p) [a, b] [] pos) .sh (g2 ga gb maxD) :=
  fe_cb2 (r := fun _ => _) (fun i => call_max2 (A.calm i)) (fun W F H σ Q x y d d' s r r' hp => by
    unfold maxD at hp
    split at hp
    · exact ⟨_, _, by rw [Rep.int_inv r, Rep.int_inv r'], hp F H _ (Ext.refl s) (.int _)⟩
    · exact hp.elim) T.g T.m (by decide +kernel) h.ob h'.ob T.he T.he2 T.hpl
theorem fe_min2 (A : Amb Γ X) (T : C2x X "min" a b pos) (h : FE Γ X W M a ka ga) (h' : FE Γ X W M b kb gb) : FE Γ X W M (.Call (.Name "min" p) [a, b] [] pos) .sh (g2 ga gb minD) :=
  fe_cb2 (r := fun _ => _) (fun i => call_min2 (A.calm i)) (fun W F H σ Q x y d d' s r r' hp => by
    unfold minD at hp
    split at hp
    · exact ⟨_, _, by rw [Rep.int_inv r, Rep.int_inv r'], hp F H _ (Ext.refl s) (.int _)⟩
    · exact hp.elim) T.g T.m (by decide +kernel) h.ob h'.ob T.he T.he2 T.hpl
/-! #### list(x), tuple(x) -/
def seqOf : D → Option (List D)
  | .lst xs => some xs
  | .tup xs => some xs
  | .scr ns => some (ns.map .int)
  | _ => none
theorem Rep1.seq {F H : Hp} (s : Same F H) {v : V} {d : D} {ds : List D} (h : Rep1 Γ F H v d) (e : seqOf d = some ds) : ∃ q xs, v = .ref q ∧ (SqL Γ.K H q xs ∨ SqT Γ.K H q xs) ∧ RepL Γ F xs ds := by
  cases d with
  | lst xs =>
    cases e
    obtain ⟨q, xs, rfl, h, r⟩ := Rep1.lst s h
    exact ⟨q, xs, rfl, .inl (.inl h), r⟩
  | tup xs =>
    cases e
    obtain ⟨q, xs, rfl, h, r⟩ := Rep1.tup s h
    exact ⟨q, xs, rfl, .inr h, r⟩
  | scr ns =>
    cases e
    cases h with
    | sc r =>
      cases r with
      | scr h => exact ⟨_, _, rfl, .inl (s.seq h), RepL.ints ns⟩
    | ow e q => cases q
  | _ => cases e
def listD (d : D) : Res D := match seqOf d with
  | some ds => .ok (.lst ds)
  | none => .no
theorem call_listA {Y : Cx} (h : Y.K = Γ.K) : CallR Y (.type "list") (fun xs H Q => ∃ p ys, xs = [.ref p] ∧ (SqL Γ.K H p ys ∨ SqT Γ.K H p ys) ∧ ∀ l, H l = none → Q (.ref l) (upd H l (.lst ys))) := by
  rw [← h]; exact call_list_of
theorem fe_list (A : Amb Γ X) (T : C1x X "list" e pos) (h : FE Γ X W M e ka ga) (hk : ka ≠ .ob := by intro z; cases z) : FE Γ X W M (.Call (.Name "list" p) [e] [] pos) .ow (g1 ga listD) :=
  fe_ct1 (r := fun Γ xs H Q => ∃ p ys, xs = [.ref p] ∧ (SqL Γ.K H p ys ∨ SqT Γ.K H p ys) ∧ ∀ l, H l = none → Q (.ref l) (upd H l (.lst ys))) (fun i => call_listA (A.K i)) (fun W F H σ Q x d s r hp => by
    unfold listD at hp
    split at hp
    · rename_i ds hd
      obtain ⟨q, xs, rfl, hq, rr⟩ := Rep1.seq s r hd
      exact ⟨q, xs, rfl, hq, fun l hl => hp _ _ _ (Ext.own s hl) ⟨l, _, rfl, hl, s.free hl, upd_same, .lst rr⟩⟩
    · exact hp.elim) T.g T.m (by decide +kernel) (h.ov hk) T.he T.hpl
/-- tuple of a list -/
def tupD : D → Res D
  | .lst xs => .ok (.tup xs)
  | .tup xs => .ok (.tup xs)
  | _ => .no
theorem call_tupB {Y : Cx} (h : Y.K = Γ.K) : CallR Y (.type "tuple") (fun xs H Q => ∃ p ys, xs = [.ref p] ∧ ((SqL Γ.K H p ys ∧ ((∀ l, H l = none → Q (.ref l) (upd H l (.tup ys))) ∨ ∀ l (o : Obj), o.dict = none → H l = none → Q (.ref l) (upd H l (.frz o (.tup ys))))) ∨ (SqT Γ.K H p ys ∧ Q (.ref p) H))) := by
  rw [← h]
  intro pins s σ H xs us Q I r h
  obtain ⟨p, ys, rfl, h⟩ := h
  obtain ⟨u, rfl, rx⟩ := vals1 r
  cases rx
  rcases h with ⟨hq, q⟩ | ⟨hq, q⟩
  · obtain ⟨its, r', pl, hz⟩ := I.list hq
    have hlen := r'.length
    refine call_tuple_list pl.isList (fun h' kp => ?_) (by simp only [List.size_toArray] <;> omega)
    have I1 : Inv Y pins σ H { s with heap := h' } := I.kept (t' := s.toks) kp
    rcases q with q | q
    · have I2 : Inv Y pins σ (upd H h'.objs.size (.tup ys)) { s with heap := h'.push { cls := .type "tuple", data := .seq its.toArray } } :=
        I1.laid (t' := s.toks) (fun b o e => Heap.get?_push_of_some _ e) (Nat.le_refl _) (show ObjOk Y.prog Y.w _ _ _ (.tup ys) from ⟨hz, its, r', IsTup.new _ _⟩)
      exact ⟨.ref h'.objs.size, _, I2, rfl, q _ (I1.hok.fresh (Nat.le_refl _))⟩
    · have I2 : Inv Y pins σ (upd H h'.objs.size (.frz { cls := .type "tuple", data := .seq its.toArray } (.tup ys))) { s with heap := h'.push { cls := .type "tuple", data := .seq its.toArray } } :=
        I1.laid (t' := s.toks) (fun b o e => Heap.get?_push_of_some _ e) (Nat.le_refl _) (show ObjOk Y.prog Y.w _ _ _ (.frz _ (.tup ys)) from ⟨Heap.get?_push_size _ rfl, hz, its, r', IsTup.new _ _⟩)
      exact ⟨.ref h'.objs.size, _, I2, rfl, q _ _ rfl (I1.hok.fresh (Nat.le_refl _))⟩
  · obtain ⟨its, r', pl, hz⟩ := I.tuple hq
    exact call_tuple_same pl ⟨.ref p, H, I, rfl, q⟩
theorem fe_tupleOf (A : Amb Γ X) (T : C1x X "tuple" e pos) (h : FE Γ X W M e ka ga) (hk : ka ≠ .ob := by intro z; cases z) : FE Γ X W M (.Call (.Name "tuple" p) [e] [] pos) .sh (g1 ga tupD) :=
  fe_ct1 (r := fun Γ xs H Q => ∃ p ys, xs = [.ref p] ∧ ((SqL Γ.K H p ys ∧ ((∀ l, H l = none → Q (.ref l) (upd H l (.tup ys))) ∨ ∀ l (o : Obj), o.dict = none → H l = none → Q (.ref l) (upd H l (.frz o (.tup ys))))) ∨ (SqT Γ.K H p ys ∧ Q (.ref p) H))) (fun i => call_tupB (A.K i)) (fun W F H σ Q x d s r hp => by
    unfold tupD at hp
    split at hp
    · obtain ⟨q, xs, rfl, hq, rr⟩ := Rep1.lst s r
      exact ⟨q, xs, rfl, .inl ⟨.inl hq, tup_new (σ := σ) s rr hp⟩⟩
    · have r : Rep1 Γ F H x (.tup _) := r
      cases r with
      | sc r =>
        cases r with
        | tup h r => exact ⟨_, _, rfl, .inr ⟨(h.mono s).seqT, hp F H _ (Ext.refl s) (.tup h r)⟩⟩
      | ow e q => cases q
    · exact hp.elim) T.g T.m (by decide +kernel) (h.ov hk) T.he T.hpl
/-! #### isinstance(x, T), T a built-in type -/
def tyD : D → String
  | .non => "NoneType"
  | .bl _ => "bool"
  | .int _ => "int"
  | .str _ => "str"
  | .tup _ => "tuple"
  | .lst _ => "list"
  | .dK _ => "dict"
  | .dT _ => "dict"
  | .obj _ _ => "object"
  | .scr _ => "list"
  | .ctup _ => "tuple"
theorem tyX_of {H : Hp} {v : V} {d : D} (h : Rep Γ H v d) (hn : ∀ c fs, d ≠ .obj c fs) (hn' : ∀ kvs, d ≠ .dT kvs) : TyX Γ.K H v (.type (tyD d)) := by
  cases h with
  | non => exact .base .non
  | bl b => exact .base (.bl b)
  | int i => exact .base (.int i)
  | str s => exact .base (.str s)
  | tup h r =>
    rcases h.rd with h | ⟨o, h⟩
    · exact .base (.tup h)
    · exact .fTuple h
  | ctup h r =>
    rcases h H with (h | ⟨o, h⟩) | ⟨o, its, n, h, c, _⟩
    · exact .base (.tup h)
    · exact .fTuple h
    · exact .kTuple h c
  | lst h r => exact .base (.lst h)
  | dK h k r =>
    rcases h with h | ⟨o, h⟩
    · exact .base (.dK h)
    · exact .fDict h
  | dT h k r => exact absurd rfl (hn' _)
  | obj h => exact absurd rfl (hn _ _)
  | scr h =>
    rcases h with (h | ⟨o, h⟩) | ⟨o, its, n, h, c, _⟩
    · exact .base (.lst h)
    · exact .base (.frz h)
    · exact .kList h c
def isiB (T : String) (d : D) : Option Bool := match T with
    | "int" => some (tyD d == "int" || tyD d == "bool")
    | "bool" => some (tyD d == "bool")
    | "str" => some (tyD d == "str")
    | "tuple" => some (tyD d == "tuple")
    | "list" => some (tyD d == "list")
    | "dict" => some (tyD d == "dict")
    | _ => none
theorem isi_kit {T : String} {d : D} {b : Bool} (hn : ∀ c fs, d ≠ .obj c fs) (h : isiB T d = some b) : kitB (tyD d) T = some b := by
  unfold isiB at h
  split at h
  case h_7 => cases h
  all_goals
    injection h with h
    subst h
    cases d
    case obj => exact absurd rfl (hn _ _)
    all_goals (simp only [tyD]; decide +kernel)
def isiG (T : String) (d : D) : Res D := match d with
  | .obj _ _ => .no
  | .dT _ => .no
  | d => match isiB T d with
    | some b => .ok (.bl b)
    | none => .no
theorem call_isiA {Y : Cx} (h : Y.K = Γ.K) : CallR Y (.builtin "isinstance") (rIsi Γ.K) := by rw [← h]; exact call_isi
/-- the name of a built-in type, as a value -/
theorem fe_isi (A : Amb Γ X) (T : String) {x : Str} {p2 : Pos} (C : C2x X "isinstance" e (.Name x p2) pos) (hg : ∀ i, Gl (X i) x) (hm : ∀ i, (X i).mg x = none) (hv : bootBuiltins x = some (.type T)) (h : FE Γ X W M e ka ga) (hn : x ≠ "__name__" := by decide) (hd : (x == ("__debug__" : Str)) = false := by decide) :
    FE Γ X W M (.Call (.Name "isinstance" p) [e, .Name x p2] [] pos) .sh (g1 ga (isiG T)) := by
  obtain ⟨t, pe, ev⟩ := h.ob.ex
  refine ⟨tCB (rIsi Γ.K) (tCons t (tCons (tC (.ty T)) tNil)), fun i => pe_callB (call_isiA (A.K i)) (C.g i) (C.m i) (by decide +kernel) (pa_cons (pe i) (pa_one (pe_bltn (hg i) (hm i) hv rfl hn hd) (C.he2 i)) (C.he i)) (by decide) (by decide) (C.he i) (C.hpl i), fun F0 H0 F H σ ρ Q E hp => ?_⟩
  show t σ H _
  refine EvG.bind ev RE.mono E hp fun d F1 H1 v e1 E1 r1 hp1 => ?_
  have r1 : Rep Γ H1 v d := r1
  have no1 : ∀ c fs, d ≠ .obj c fs := fun c fs z => by subst z; exact hp1.elim
  have no2 : ∀ kvs, d ≠ .dT kvs := fun kvs z => by subst z; exact hp1.elim
  have hp1 : PostG Γ W F1 H1 σ (RE Γ .sh) (match isiB T d with | some b => .ok (.bl b) | none => .no) Q := by
    cases d <;> first | exact hp1 | exact absurd rfl (no1 _ _) | exact absurd rfl (no2 _)
  cases hb : isiB T d with
  | none => rw [hb] at hp1; exact hp1.elim
  | some b =>
    rw [hb] at hp1
    exact ⟨v, .ty T, _, _, b, rfl, .ty T, tyX_of r1 no1 no2, kit_ty (isi_kit no1 hb), hp1 F1 H1 _ (Ext.refl E1.same) (.bl b)⟩
/-! #### sum of whole numbers -/
def intsOf : List D → Option (List Int)
  | [] => some []
  | .int i :: r => (intsOf r).map (i :: ·)
  | _ => none
theorem ints_rep {F : Hp} : ∀ {vs : List V} {ds : List D} {ns : List Int}, RepL Γ F vs ds → intsOf ds = some ns → vs = ns.map V.int
  | _, _, _, .nil, e => by cases e; rfl
  | _, d :: ds, ns, .cons h r, e => by
    cases h with
    | int i =>
      unfold intsOf at e
      cases q : intsOf ds with
      | none => rw [q] at e; cases e
      | some ms =>
        rw [q] at e
        cases e
        rw [ints_rep r q]
        rfl
    | _ => cases e
def sumD : D → Res D
  | .lst xs => match intsOf xs with
    | some ns => .ok (.int ns.sum)
    | none => .no
  | _ => .no
theorem call_sumA {Y : Cx} (h : Y.K = Γ.K) (hc : Y.calm = true) : CallR Y (.builtin "sum") (rSum Γ.K) := by rw [← h]; exact cr_sum hc
theorem fe_sum (A : Amb Γ X) (T : C1x X "sum" e pos) (h : FE Γ X W M e ka ga) : FE Γ X W M (.Call (.Name "sum" p) [e] [] pos) .sh (g1 ga sumD) :=
  fe_cb1 (r := fun Γ => rSum Γ.K) (fun i => call_sumA (A.K i) (A.calm i)) (fun W F H σ Q x d s r hp => by
    unfold sumD at hp
    split at hp
    · split at hp
      · rename_i ns hn
        have r : Rep Γ H x (.lst _) := r
        cases r with
        | lst h r => exact ⟨_, ns, rfl, by rw [← ints_rep r hn]; exact .inl (.inl h), hp F H _ (Ext.refl s) (.int _)⟩
      · exact hp.elim
    · exact hp.elim) T.g T.m (by decide +kernel) h.ob T.he T.hpl
/-! #### sorted(list) -/
def pyg (d : D) : PyData := (py d).getD .none
def ordD (a b : D) : Bool := PySem.W.dataLe false pyg a b
/-- alike data without dicts, all tuples or none -/
def sortOk (ds : List D) : Bool := ds.all (fun d => (py d).isSome && decide ((pyg d).depth ≤ 60)) && ds.all (fun a => ds.all fun b => PySem.W.alike (pyg a) (pyg b)) &&
  (ds.all (fun d => match pyg d with | .tuple (_ :: _) => true | _ => false) || ds.all (fun d => match pyg d with | .none => false | .tuple _ => false | _ => true))
def sortD : D → Res D
  | .lst ds => if sortOk ds = true then .ok (.lst (ds.mergeSort ordD)) else .no
  | _ => .no
def rSortG (Γ : Gx) : List V → Hp → VK → Prop := fun vs H Q => ∃ (a : Addr) (xs : List V) (ds : List D), vs = [V.ref a] ∧ Rd H a (.lst xs) ∧ RepL Γ H xs ds ∧ sortOk ds = true ∧
  ∀ p, H p = none → Q (.ref p) (upd H p (.lst (((xs.zip ds).mergeSort fun a b => ordD a.2 b.2).map (·.1))))
theorem each_rep {Y : Cx} {pins : List (Addr × Obj)} {σ : L2.St} {H : Hp} {s : Shared} (hK : Y.K = Γ.K) (I : Inv Y pins σ H s) : ∀ {xs : List V} {ds : List D} {us : List Value}, RepL Γ H xs ds → Vals xs us → ds.all (fun d => (py d).isSome) = true →
    PySem.W.EachIs (fun v (b : V × D) => RelV b.1 v) us (xs.zip ds) ∧ PySem.W.EachIs (fun v (b : V × D) => ∃ as, Reads s.heap v (pyg b.2) as) us (xs.zip ds)
  | _, _, _, .nil, .nil, _ => ⟨.nil, .nil⟩
  | _, d :: ds, _, .cons h r, .cons q t, hs => by
    rw [List.all_cons, Bool.and_eq_true] at hs
    obtain ⟨i1, i2⟩ := each_rep hK I r t hs.2
    refine ⟨.cons q i1, .cons ?_ i2⟩
    cases e : py d with
    | none => rw [e] at hs; cases hs.1
    | some pd =>
      have h1 := py_rep h e
      rw [← hK] at h1
      obtain ⟨as, ra⟩ := Dp.reads I pd _ _ h1 q
      refine ⟨as, ?_⟩
      show Reads s.heap _ ((py d).getD .none) as
      rw [e]
      exact ra
theorem vals_each : ∀ {out : List Value} {bs : List (V × D)}, PySem.W.EachIs (fun v (b : V × D) => RelV b.1 v) out bs → Vals (bs.map (·.1)) out
  | _, _, .nil => .nil
  | _, _, .cons h t => .cons h (vals_each t)
theorem cr_sortG {Y : Cx} (hK : Y.K = Γ.K) (hu : Y.A.units + 64 < cLine) : CallR Y (.builtin "sorted") (rSortG Γ) := by
  intro pins s σ H vs us Q I r h
  obtain ⟨a, xs, ds, rfl, hs, rr, ok, q⟩ := h
  obtain ⟨u, rfl, ru⟩ := vals1 r
  obtain rfl : u = Value.ref a := ru
  obtain ⟨hz, its, n, rv, hl, e⟩ := lstR I hs
  unfold sortOk at ok
  rw [Bool.and_eq_true, Bool.and_eq_true] at ok
  obtain ⟨⟨o1, o2⟩, o3⟩ := ok
  have os : ds.all (fun d => (py d).isSome) = true := by
    rw [List.all_eq_true] at o1 ⊢
    intro d hd
    have := o1 d hd
    rw [Bool.and_eq_true] at this
    exact this.1
  have od : ∀ d ∈ ds, (pyg d).depth ≤ 60 := fun d hd => by
    have := List.all_eq_true.mp o1 d hd
    rw [Bool.and_eq_true] at this
    exact of_decide_eq_true this.2
  obtain ⟨e1, e2⟩ := each_rep hK I rr rv os
  have zl : (xs.zip ds).length = xs.length := by rw [List.length_zip, rr.length, Nat.min_self]
  have zs : (xs.zip ds).map (fun b => pyg b.2) = ds.map pyg := by
    have : (xs.zip ds).map (·.2) = ds := List.map_snd_zip (by rw [rr.length]; exact Nat.le_refl _)
    calc (xs.zip ds).map (fun b => pyg b.2) = ((xs.zip ds).map (·.2)).map pyg := by rw [List.map_map]; rfl
      _ = ds.map pyg := by rw [this]
  refine PySem.W.sorted_data (enc := fun b : V × D => pyg b.2) (bs := xs.zip ds) (R := fun v b => RelV b.1 v) (vs := its) ⟨_, e, rfl, _, rfl⟩ e1 e2 ?_ ?_ (by rw [zl]; exact hz) (fun b hb => ?_) fun out ho hout => ?_
  · rw [zs]
    intro d hd d' hd'
    obtain ⟨x, hx, rfl⟩ := List.mem_map.mp hd
    obtain ⟨y, hy, rfl⟩ := List.mem_map.mp hd'
    exact List.all_eq_true.mp (List.all_eq_true.mp o2 x hx) y hy
  · rw [zs]
    rw [Bool.or_eq_true] at o3
    rcases o3 with o3 | o3
    · refine .inl fun d hd => ?_
      obtain ⟨x, hx, rfl⟩ := List.mem_map.mp hd
      have := List.all_eq_true.mp o3 x hx
      split at this
      · rename_i y ys he
        exact ⟨y, ys, he⟩
      · cases this
    · refine .inr fun d hd => ?_
      obtain ⟨x, hx, rfl⟩ := List.mem_map.mp hd
      have := List.all_eq_true.mp o3 x hx
      split at this
      · cases this
      · cases this
      · rename_i h1 h2
        exact ⟨fun z => h1 z, fun ys z => h2 ys z⟩
  · have := od b.2 (List.of_mem_zip hb).2
    show Y.A.units + 2 + (pyg b.2).depth < cLine
    omega
  · have hv := vals_each hout
    obtain ⟨n', hat⟩ := PyProof.Rows.sortedAll_at s.heap its out.toArray
    refine ⟨.ref (s.heap.objs.size + 1), upd H (s.heap.objs.size + 1) (.lst _), I.laid (t' := s.toks) (fun b o q => PyProof.Rows.sortedAll_old q) (Nat.le_succ _) (show ObjOk Y.prog Y.w _ _ _ (.lst _) from ⟨?_, out, n', hv, hat⟩), rfl, q _ (I.hok.fresh (Nat.le_succ _))⟩
    rw [List.length_map, List.length_mergeSort, zl]; exact hz
theorem zip_rep {F : Hp} {vs : List V} {ds : List D} (r : RepL Γ F vs ds) : ∀ p ∈ vs.zip ds, Rep Γ F p.1 p.2 := by
  intro p hp
  obtain ⟨i, hi, e⟩ := List.mem_iff_getElem.mp hp
  have h2 : (vs.zip ds)[i]? = some p := by rw [List.getElem?_eq_getElem hi, e]
  rw [List.getElem?_zip_eq_some] at h2
  obtain ⟨v, h3, h4⟩ := r.get h2.2
  rw [h2.1] at h3
  cases h3
  exact h4
theorem rep_map {F : Hp} : ∀ {ps : List (V × D)}, (∀ p ∈ ps, Rep Γ F p.1 p.2) → RepL Γ F (ps.map (·.1)) (ps.map (·.2))
  | [], _ => .nil
  | p :: ps, h => .cons (h p List.mem_cons_self) (rep_map fun q hq => h q (List.mem_cons_of_mem _ hq))
theorem sort_rep {F : Hp} {vs : List V} {ds : List D} (r : RepL Γ F vs ds) : RepL Γ F (((vs.zip ds).mergeSort fun a b => ordD a.2 b.2).map (·.1)) (ds.mergeSort ordD) := by
  have h1 : ((vs.zip ds).mergeSort fun a b => ordD a.2 b.2).map (·.2) = ds.mergeSort ordD := by
    rw [List.map_mergeSort (s := ordD) (fun a _ b _ => rfl), List.map_snd_zip (by rw [r.length]; exact Nat.le_refl _)]
  rw [← h1]
  exact rep_map fun p hp => zip_rep r p (List.mem_mergeSort.mp hp)
theorem fe_sorted (A : Amb Γ X) (T : C1x X "sorted" e pos) (h : FE Γ X W M e ka ga) (hk : ka ≠ .ob := by intro z; cases z) : FE Γ X W M (.Call (.Name "sorted" p) [e] [] pos) .ow (g1 ga sortD) :=
  fe_cb1 (r := rSortG) (fun i => cr_sortG (A.K i) (A.un i)) (fun W F H σ Q x d s r hp => by
    unfold sortD at hp
    split at hp
    · split at hp
      · rename_i ds ok
        obtain ⟨q, xs, rfl, hq, rr⟩ := Rep1.lst s r
        exact ⟨q, xs, ds, rfl, hq, rr.mono s, ok, fun l hl => hp _ _ _ (Ext.own s hl) ⟨l, _, rfl, hl, s.free hl, upd_same, .lst (sort_rep rr)⟩⟩
      · exact hp.elim
    · exact hp.elim) T.g T.m (by decide +kernel) (h.ov hk) T.he T.hpl
end
end FL
namespace FL
open PySem PySem.Spec PyProof.Rows L2
variable {Γ : Gx}
theorem filter_id {M : List Nat} {i : Nat} (hm : M.contains i = false) : M.filter (· != i) = M := by
  apply List.filter_eq_self.mpr
  intro a ha
  have : a ≠ i := fun z => by
    subst z
    have := List.contains_iff_mem.mpr ha
    rw [hm] at this
    cases this
  simp [this]
section
variable {ι : Type} {X : ι → Cx} {W : WX} {M M' is js : List Nat} {m : Mds} {e a b : Expr} {k kr ka kb : Kd} {pos p : Pos} {ga gb : Ev0 → Res D} {sts : List Stmt} {st : Stmt} {g : Ev0 → Out}
theorem fs_setN (A : Amb Γ X) (i : Nat) {x : Str} {p2 : Pos} {M bk ct : List Nat} (hm : M.contains i = false) (hi : ∀ j, (X j).N[i]? = some x) (hx : ∀ j, Loc (X j).env.scope x) (h : FE Γ X W M e .sh ga) (hs : ∀ j, swapsWith e (some (.Name x p2)) pos.line (X j).env = pure false)
    (hf : ∀ j, (X j).fn x = true ∨ (X j).env.scope.names.lookup x = some .local) : FS Γ X W M ⟨M, bk, ct⟩ kr (.Assign [.Name x p2] e pos) (oSet i ga) := by
  have := fs_set (m := ⟨M, bk, ct⟩) (kr := kr) (pos := pos) (p2 := p2) A i hi hx h hs hf
  rw [filter_id hm] at this
  exact this
theorem fs_setON (A : Amb Γ X) (i : Nat) {x : Str} {p2 : Pos} (hm : M.contains i = false) (hi : ∀ j, (X j).N[i]? = some x) (hx : ∀ j, Loc (X j).env.scope x) (h : FE Γ X W M e .ow ga) (hs : ∀ j, swapsWith e (some (.Name x p2)) pos.line (X j).env = pure false)
    (hf : ∀ j, (X j).fn x = true ∨ (X j).env.scope.names.lookup x = some .local) : FS Γ X W M ⟨i :: M, m.bk, m.ct⟩ kr (.Assign [.Name x p2] e pos) (oSet i ga) := by
  have := fs_setO (m := m) (kr := kr) (pos := pos) (p2 := p2) A i hi hx h hs hf
  rw [filter_id hm] at this
  exact this
/-- an own list stored anew -/
theorem fs_setOO (A : Amb Γ X) (i : Nat) {x : Str} {p2 : Pos} (M' : List Nat) (hm : i :: M.filter (· != i) = M') (hi : ∀ j, (X j).N[i]? = some x) (hx : ∀ j, Loc (X j).env.scope x) (h : FE Γ X W M e .ow ga) (hs : ∀ j, swapsWith e (some (.Name x p2)) pos.line (X j).env = pure false)
    (hf : ∀ j, (X j).fn x = true ∨ (X j).env.scope.names.lookup x = some .local) : FS Γ X W M ⟨M', m.bk, m.ct⟩ kr (.Assign [.Name x p2] e pos) (oSet i ga) := by
  have := fs_setO (m := m) (kr := kr) (pos := pos) (p2 := p2) A i hi hx h hs hf
  rw [hm] at this
  exact this
theorem fss_frz (i : Nat) (M' : List Nat) (hm : M.filter (· != i) = M') (h : FSs Γ X W M' m kr sts g) : FSs Γ X W M m kr sts g := by
  subst hm
  exact fss_freeze i h
theorem fs_frz (i : Nat) (M' : List Nat) (hm : M.filter (· != i) = M') (h : FS Γ X W M' m kr st g) : FS Γ X W M m kr st g := by
  subst hm
  exact fs_freeze i h
theorem fss_aft (i : Nat) (N : List Nat) (hm : N.filter (· != i) = m.nx) (h : FSs Γ X W M ⟨N, m.bk, m.ct⟩ kr sts g) : FSs Γ X W M m kr sts g := by
  have := fss_after i h
  rw [hm] at this
  exact this
theorem fs_lcN (A : Amb Γ X) (n : Nat) {elt tg iter : Expr} {ifs : List Expr} {sc : Scope} {gi : Ev0 → Res (List D)} {b : D → Ev0 → Res Ev0} {gt : Ev0 → Res Bool} {ge : Ev0 → Res D} {y : Str} {py spos : Pos} (own : List (Str × Nat)) (hm : M.contains n = false) (hy : ∀ i, (X i).N[n]? = some y) (hyl : ∀ i, (X i).env.scope.names.lookup y = some .local)
    (hsw : ∀ i, swapsWith (.ListComp elt [⟨tg, iter, ifs, 0⟩] sc pos) (some (.Name y py)) spos.line (X i).env = pure true)
    (hi : FI Γ X W M tg iter gi) (ok : ∀ i, BlkOk (X i).N (X i).env.scope sc own) (hg : FG Γ (Blk X sc) M is tg b) (ht : FTs Γ (Blk X sc) W0 M ifs gt) (he : FE Γ (Blk X sc) W0 M elt .sh ge)
    (hsub : ∀ i ∈ is, i ∈ own.map (·.2)) (hs : ∀ i x, foldedSetIterable iter (X i).env x = pure x) : FS Γ X W M ⟨n :: M, m.bk, m.ct⟩ kr (.Assign [.Name y py] (.ListComp elt [⟨tg, iter, ifs, 0⟩] sc pos) spos) (oSet n (gComp (own.map (·.2)) gi b gt ge)) := by
  have := fs_setLc (m := m) (kr := kr) (py := py) (spos := spos) (pos := pos) A n own hy hyl hsw hi ok hg ht he hsub hs
  rw [filter_id hm] at this
  exact this
end
/-- the context of a def's body -/
theorem amb_def {P : Program} {w : World} {K : PySem.W.Frag} {mg : Str → Option Value} {base : Heap} {ct : Str → Option Addr} {qual : Str} {st : Stmt} {f : Addr} {N ps : List Str} {kk : Nat} (S : FnScope N ps (defScope st)) {cdv : Value} {A : Around} {outer : List Env} {s : Shared} {H : Hp} {E : XK}
    (hr : Room kk (A.deeper (envOfC qual (defScope st) s.heap.objs.size f cdv))) : Amb ⟨K, ct⟩ (fun _ : Unit => cxOf (L2.CX P w) P w K mg base N qual (defScope st) f cdv A outer s H E) :=
  ⟨fun _ => rfl, fun _ => rfl, fun _ => S.nd, fun _ => hr.units, fun _ => (show (A.deeper (envOfC qual (defScope st) s.heap.objs.size f cdv)).units + 128 < cLine from by have := hr.un; omega)⟩
/-- a def of the top, as it stands -/
def DefAt (K : PySem.W.Frag) (mg : Str → Option Value) (x qual : Str) (st : Stmt) (ps : List Str) : Prop := ∃ f fd, Fun K x qual st f fd ∧ mg x = some (.ref f) ∧ Binds K fd ps []
/-- .. and what it is worth -/
def Def (P : Program) (w : World) (K : PySem.W.Frag) (mg : Str → Option Value) (base : Heap) (ct : Str → Option Addr) (kk : Nat) (x : Str) (n : Nat) (k : Kd) (g : List D → Res D) : Prop :=
  ∃ f fd ps, FnOk P w K mg base (L2.CX P w) kk f fd ps (spF ⟨K, ct⟩ n k g) ∧ mg x = some (.ref f) ∧ PySem.W.keepIn K (.ref f) = true ∧ Binds K fd ps []
theorem mkDef {P : Program} {w : World} {K : PySem.W.Frag} {mg : Str → Option Value} {base : Heap} {ct : Str → Option Addr} {x qual : Str} {st : Stmt} {N ps : List Str} {kk : Nat} {kr : Kd} {M' : List Nat} {g : Ev0 → Out} (F : DefAt K mg x qual st ps) (S : FnScope N ps (defScope st))
    (hbody : ∀ (f : Addr) (cdv : Value) (A : Around) (outer : List Env) (s : Shared) (H : Hp) (E : XK), Room kk (A.deeper (envOfC qual (defScope st) s.heap.objs.size f cdv)) →
      Amb ⟨K, ct⟩ (fun _ : Unit => cxOf (L2.CX P w) P w K mg base N qual (defScope st) f cdv A outer s H E) →
      FSs ⟨K, ct⟩ (fun _ : Unit => cxOf (L2.CX P w) P w K mg base N qual (defScope st) f cdv A outer s H E) (fun cls d _ H' => E cls d H') [] ⟨M', [], []⟩ kr (defBody st) g) :
    Def P w K mg base ct (kk + 1) x ps.length kr (fnG N.length kr g) := by
  obtain ⟨f, fd, F1, hm, hb⟩ := F
  exact ⟨f, fd, ps, fn_ok F1 S fun cdv A outer s H E hr => hbody f cdv A outer s H E hr (amb_def S hr), hm, F1.kp, hb⟩
section
variable {ι : Type} {X : ι → Cx} {W : WX} {M : List Nat} {e : Expr} {k : Kd} {pos p : Pos} {es : List Expr}
theorem fe_callD {n kk : Nat} {x : Str} {g : List D → Res D} {gs : Ev0 → Res (List D)} (A : Amb Γ X) (hD : ∀ i, Def (X i).prog (X i).w (X i).K (X i).mg (X i).base Γ.ct kk x n k g) (hr : ∀ i, Room kk (X i).A) (hg : ∀ i, Gl (X i) x) (tk : ∀ i, Takes (X i) W)
    (hn : ∀ ρ ds, gs ρ = .ok ds → ds.length = n) (ha : FA Γ X W M (e :: es) gs) (he : ∀ i, starEach (e :: es) (X i).env = (false, eval e (X i).env) :: starEach es (X i).env) (hpl : ∀ i, (backTo pos (starEach es (X i).env)).any (·.1) = false) (hdb : (x == ("__debug__" : Str)) = false := by decide) :
    FE Γ X W M (.Call (.Name x p) (e :: es) [] pos) k (gCall g gs) := by
  obtain ⟨t, pe, ev⟩ := ha.ex
  refine ⟨_, fun i => ?_, ev_call hn ev⟩
  obtain ⟨f, fd, ps, F, hm, hk, hb⟩ := hD i
  have eΓ : (⟨(X i).K, Γ.ct⟩ : Gx) = Γ := by rw [A.K i]
  rw [eΓ] at F
  exact pe_callS F (hr i) (hg i) hm hk hb (fun σ => passAt (tk i) σ) (pe i) hdb (he i) (hpl i)
end
end FL
namespace FL
open PySem PySem.Spec PyProof.Rows L2
variable {Γ : Gx}
/-- a def with its function object -/
theorem mkFn {P : Program} {w : World} {K : PySem.W.Frag} {mg : Str → Option Value} {base : Heap} {ct : Str → Option Addr} {x qual : Str} {st : Stmt} {f : Addr} {fd : FuncData} {N ps : List Str} {kk : Nat} {kr : Kd} {M' : List Nat} {g : Ev0 → Out} (F : Fun K x qual st f fd) (S : FnScope N ps (defScope st))
    (hbody : ∀ (f : Addr) (cdv : Value) (A : Around) (outer : List Env) (s : Shared) (H : Hp) (E : XK), Room kk (A.deeper (envOfC qual (defScope st) s.heap.objs.size f cdv)) →
      Amb ⟨K, ct⟩ (fun _ : Unit => cxOf (L2.CX P w) P w K mg base N qual (defScope st) f cdv A outer s H E) →
      FSs ⟨K, ct⟩ (fun _ : Unit => cxOf (L2.CX P w) P w K mg base N qual (defScope st) f cdv A outer s H E) (fun cls d _ H' => E cls d H') [] ⟨M', [], []⟩ kr (defBody st) g) :
    FnOk P w K mg base (L2.CX P w) (kk + 1) f fd ps (spF ⟨K, ct⟩ ps.length kr (fnG N.length kr g)) :=
  fn_ok F S fun cdv A outer s H E hr => hbody f cdv A outer s H E hr (amb_def S hr)
theorem hsp_of {K : PySem.W.Frag} {ct : Str → Option Addr} {g : List D → Res D} (h : ∀ ns : List Int, ns.length ≤ 63 → g [.scr ns] = .ok (.bl true)) (H : Hp) (a : Addr) (ns : List Int) (hl : ns.length ≤ 63) (hS : SqL K H a (ns.map V.int)) :
    spF ⟨K, ct⟩ 1 .sh g [.ref a] H (fun v _ => v = .bl true) fun _ _ _ => False := by
  refine ⟨H, [.scr ns], Same.refl H, .cons (.scr hS) .nil, rfl, ?_⟩
  rw [h ns hl]
  intro F' H' b _ r
  exact Rep.bl_inv r rfl
theorem hcx {P : Program} {w : World} {H : Hp} {s : Shared} {e : Value} {s' : Shared} (h : L2.CX P w [] H s (fun _ _ _ => False) e s') : False := by
  obtain ⟨_, _, _, _, _, _, _, _, _, _, _, _, z⟩ := h
  exact z
end FL
namespace FL
open PySem L2
/-! the pure side: how the worths of texts reduce -/
@[simp] theorem Res.bind_ok {α β : Type} (a : α) (f : α → Res β) : (Res.ok a).bind f = f a := (rfl)
@[simp] theorem rOut_ok {α : Type} (a : α) (f : α → Out) : rOut (.ok a) f = f a := (rfl)
@[simp] theorem gVar_z (d : D) (ρ : Ev0) : gVar 0 (some d :: ρ) = .ok d := (rfl)
@[simp] theorem gVar_s (i : Nat) (o : Option D) (ρ : Ev0) : gVar (i + 1) (o :: ρ) = gVar i ρ := (rfl)
@[simp] theorem gC_e (d : D) (ρ : Ev0) : gC d ρ = .ok d := (rfl)
def k2 (g : Ev0 → Res D) (op : D → D → Res D) (ρ : Ev0) (a : D) : Res D := (g ρ).bind (op a)
@[simp] theorem k2_e (g : Ev0 → Res D) (op : D → D → Res D) (ρ : Ev0) (a : D) : k2 g op ρ a = (g ρ).bind (op a) := (rfl)
@[simp] theorem g2_e (f g : Ev0 → Res D) (op : D → D → Res D) (ρ : Ev0) : g2 f g op ρ = (f ρ).bind (k2 g op ρ) := (rfl)
@[simp] theorem g1_e (f : Ev0 → Res D) (op : D → Res D) (ρ : Ev0) : g1 f op ρ = (f ρ).bind op := (rfl)
@[simp] theorem asB_e (b : Bool) : asB (.bl b) = .ok b := (rfl)
@[simp] theorem gT_e (f : Ev0 → Res D) (ρ : Ev0) : gT f ρ = (f ρ).bind asB := (rfl)
def kAnd (g : Ev0 → Res Bool) (ρ : Ev0) (c : Bool) : Res Bool := if c = true then g ρ else .ok false
def kOr (g : Ev0 → Res Bool) (ρ : Ev0) (c : Bool) : Res Bool := if c = true then .ok true else g ρ
def kNot (c : Bool) : Res Bool := .ok (!c)
def kAndV (g : Ev0 → Res D) (ρ : Ev0) (c : Bool) : Res D := if c = true then g ρ else .ok (.bl false)
def kOrV (g : Ev0 → Res D) (ρ : Ev0) (c : Bool) : Res D := if c = true then .ok (.bl true) else g ρ
def kNotV (c : Bool) : Res D := .ok (.bl (!c))
def kIf {α : Type} (f g : Ev0 → α) (ρ : Ev0) (c : Bool) : α := if c = true then f ρ else g ρ
@[simp] theorem kAnd_e (g : Ev0 → Res Bool) (ρ : Ev0) (c : Bool) : kAnd g ρ c = if c = true then g ρ else .ok false := (rfl)
@[simp] theorem kOr_e (g : Ev0 → Res Bool) (ρ : Ev0) (c : Bool) : kOr g ρ c = if c = true then .ok true else g ρ := (rfl)
@[simp] theorem kNot_e (c : Bool) : kNot c = .ok (!c) := (rfl)
@[simp] theorem kAndV_e (g : Ev0 → Res D) (ρ : Ev0) (c : Bool) : kAndV g ρ c = if c = true then g ρ else .ok (.bl false) := (rfl)
@[simp] theorem kOrV_e (g : Ev0 → Res D) (ρ : Ev0) (c : Bool) : kOrV g ρ c = if c = true then .ok (.bl true) else g ρ := (rfl)
@[simp] theorem kNotV_e (c : Bool) : kNotV c = .ok (.bl (!c)) := (rfl)
@[simp] theorem kIf_e {α : Type} (f g : Ev0 → α) (ρ : Ev0) (c : Bool) : kIf f g ρ c = if c = true then f ρ else g ρ := (rfl)
@[simp] theorem gAnd_e (f g : Ev0 → Res Bool) (ρ : Ev0) : gAnd f g ρ = (f ρ).bind (kAnd g ρ) := (rfl)
@[simp] theorem gOr_e (f g : Ev0 → Res Bool) (ρ : Ev0) : gOr f g ρ = (f ρ).bind (kOr g ρ) := (rfl)
@[simp] theorem gNot_e (f : Ev0 → Res Bool) (ρ : Ev0) : gNot f ρ = (f ρ).bind kNot := (rfl)
@[simp] theorem gAndV_e (f g : Ev0 → Res D) (ρ : Ev0) : gAndV f g ρ = (gT f ρ).bind (kAndV g ρ) := (rfl)
@[simp] theorem gOrV_e (f g : Ev0 → Res D) (ρ : Ev0) : gOrV f g ρ = (gT f ρ).bind (kOrV g ρ) := (rfl)
@[simp] theorem gNotV_e (f : Ev0 → Res D) (ρ : Ev0) : gNotV f ρ = (gT f ρ).bind kNotV := (rfl)
@[simp] theorem gIf_e (c : Ev0 → Res Bool) (f g : Ev0 → Res D) (ρ : Ev0) : gIf c f g ρ = (c ρ).bind (kIf f g ρ) := (rfl)
def kCh3 (gc : Ev0 → Res D) (o' : D → D → Res D) (ρ : Ev0) (b : D) (k : Bool) : Res D := if k = true then (gc ρ).bind (o' b) else .ok (.bl false)
def kCh2 (gc : Ev0 → Res D) (o' : D → D → Res D) (ρ : Ev0) (b z : D) : Res D := (asB z).bind (kCh3 gc o' ρ b)
def kCh1 (gc : Ev0 → Res D) (o o' : D → D → Res D) (ρ : Ev0) (a b : D) : Res D := (o a b).bind (kCh2 gc o' ρ b)
def kCh (gb gc : Ev0 → Res D) (o o' : D → D → Res D) (ρ : Ev0) (a : D) : Res D := (gb ρ).bind (kCh1 gc o o' ρ a)
@[simp] theorem kCh3_e (gc : Ev0 → Res D) (o' : D → D → Res D) (ρ : Ev0) (b : D) (k : Bool) : kCh3 gc o' ρ b k = if k = true then (gc ρ).bind (o' b) else .ok (.bl false) := (rfl)
@[simp] theorem kCh2_e (gc : Ev0 → Res D) (o' : D → D → Res D) (ρ : Ev0) (b z : D) : kCh2 gc o' ρ b z = (asB z).bind (kCh3 gc o' ρ b) := (rfl)
@[simp] theorem kCh1_e (gc : Ev0 → Res D) (o o' : D → D → Res D) (ρ : Ev0) (a b : D) : kCh1 gc o o' ρ a b = (o a b).bind (kCh2 gc o' ρ b) := (rfl)
@[simp] theorem kCh_e (gb gc : Ev0 → Res D) (o o' : D → D → Res D) (ρ : Ev0) (a : D) : kCh gb gc o o' ρ a = (gb ρ).bind (kCh1 gc o o' ρ a) := (rfl)
@[simp] theorem gChain_e (ga gb gc : Ev0 → Res D) (o o' : D → D → Res D) (ρ : Ev0) : gChain ga gb gc o o' ρ = (ga ρ).bind (kCh gb gc o o' ρ) := (rfl)
@[simp] theorem gNil_e (ρ : Ev0) : gNil ρ = .ok [] := (rfl)
def kCons2 (a : D) (r : List D) : Res (List D) := .ok (a :: r)
def kCons (gs : Ev0 → Res (List D)) (ρ : Ev0) (a : D) : Res (List D) := (gs ρ).bind (kCons2 a)
@[simp] theorem kCons2_e (a : D) (r : List D) : kCons2 a r = .ok (a :: r) := (rfl)
@[simp] theorem kCons_e (gs : Ev0 → Res (List D)) (ρ : Ev0) (a : D) : kCons gs ρ a = (gs ρ).bind (kCons2 a) := (rfl)
@[simp] theorem gCons_e (g : Ev0 → Res D) (gs : Ev0 → Res (List D)) (ρ : Ev0) : gCons g gs ρ = (g ρ).bind (kCons gs ρ) := (rfl)
def kTup (ds : List D) : Res D := if ds.length ≤ sizeLine then .ok (.tup ds) else .no
def kLst (ds : List D) : Res D := if ds.length ≤ sizeLine then .ok (.lst ds) else .no
theorem kTup_ok {ds : List D} (h : ds.length ≤ sizeLine) : kTup ds = .ok (.tup ds) := if_pos h
theorem kLst_ok {ds : List D} (h : ds.length ≤ sizeLine) : kLst ds = .ok (.lst ds) := if_pos h
@[simp] theorem kTup_0 : kTup [] = .ok (.tup []) := kTup_ok (by decide)
@[simp] theorem kTup_1 (a : D) : kTup [a] = .ok (.tup [a]) := kTup_ok (by show 1 ≤ _; decide)
@[simp] theorem kTup_2 (a b : D) : kTup [a, b] = .ok (.tup [a, b]) := kTup_ok (by show 2 ≤ _; decide)
@[simp] theorem kTup_3 (a b c : D) : kTup [a, b, c] = .ok (.tup [a, b, c]) := kTup_ok (by show 3 ≤ _; decide)
@[simp] theorem kTup_4 (a b c d : D) : kTup [a, b, c, d] = .ok (.tup [a, b, c, d]) := kTup_ok (by show 4 ≤ _; decide)
@[simp] theorem kLst_0 : kLst [] = .ok (.lst []) := kLst_ok (by decide)
@[simp] theorem kLst_1 (a : D) : kLst [a] = .ok (.lst [a]) := kLst_ok (by show 1 ≤ _; decide)
@[simp] theorem kLst_2 (a b : D) : kLst [a, b] = .ok (.lst [a, b]) := kLst_ok (by show 2 ≤ _; decide)
@[simp] theorem kLst_3 (a b c : D) : kLst [a, b, c] = .ok (.lst [a, b, c]) := kLst_ok (by show 3 ≤ _; decide)
@[simp] theorem gTup_e (gs : Ev0 → Res (List D)) (ρ : Ev0) : gTup gs ρ = (gs ρ).bind kTup := (rfl)
@[simp] theorem gLst_e (gs : Ev0 → Res (List D)) (ρ : Ev0) : gLst gs ρ = (gs ρ).bind kLst := (rfl)
@[simp] theorem gCall_e (g : List D → Res D) (gs : Ev0 → Res (List D)) (ρ : Ev0) : gCall g gs ρ = (gs ρ).bind g := (rfl)
theorem sizeL : sizeLine = 16777216 := sizeLine_eq
@[simp] theorem subD_e (i j : Int) : subD (.int i) (.int j) = .ok (.int (i - j)) := (rfl)
@[simp] theorem addD_e (i j : Int) : addD (.int i) (.int j) = .ok (.int (i + j)) := (rfl)
@[simp] theorem addD_tup (xs ys : List D) : addD (.tup xs) (.tup ys) = if xs.length + ys.length ≤ sizeLine then .ok (.tup (xs ++ ys)) else .no := (rfl)
@[simp] theorem catD_e (xs ys : List D) : catD (.lst xs) (.lst ys) = if xs.length + ys.length ≤ sizeLine then .ok (.lst (xs ++ ys)) else .no := (rfl)
@[simp] theorem mulD_e (i j : Int) : mulD (.int i) (.int j) = if mulOk i j = true then .ok (.int (i * j)) else .no := (rfl)
@[simp] theorem fdivD_e (i j : Int) : fdivD (.int i) (.int j) = if divOk i j = true then .ok (.int (i / j)) else .no := (rfl)
@[simp] theorem modD_e (i j : Int) : modD (.int i) (.int j) = if 0 < j then .ok (.int (i % j)) else .no := by
  show (if decide (0 < j) = true then _ else _) = _
  simp
@[simp] theorem powD_e (i j : Int) : powD (.int i) (.int j) = if powOk i j = true then .ok (.int (i ^ j.toNat)) else .no := (rfl)
@[simp] theorem ltD_e (i j : Int) : ltD (.int i) (.int j) = .ok (.bl (decide (i < j))) := (rfl)
@[simp] theorem leD_e (i j : Int) : leD (.int i) (.int j) = .ok (.bl (decide (i ≤ j))) := (rfl)
@[simp] theorem gtD_e (i j : Int) : gtD (.int i) (.int j) = .ok (.bl (decide (j < i))) := (rfl)
@[simp] theorem geD_e (i j : Int) : geD (.int i) (.int j) = .ok (.bl (decide (j ≤ i))) := (rfl)
@[simp] theorem negD_e (i : Int) : negD (.int i) = .ok (.int (-i)) := (rfl)
@[simp] theorem maxD_e (i j : Int) : maxD (.int i) (.int j) = .ok (.int (max i j)) := by
  show Res.ok (D.int (if j > i then j else i)) = _
  congr 2
  omega
@[simp] theorem minD_e (i j : Int) : minD (.int i) (.int j) = .ok (.int (min i j)) := by
  show Res.ok (D.int (if j < i then j else i)) = _
  congr 2
  omega
@[simp] theorem intD_bl (b : Bool) : intD (.bl b) = .ok (.int (if b = true then 1 else 0)) := (rfl)
@[simp] theorem intD_e (i : Int) : intD (.int i) = .ok (.int i) := (rfl)
@[simp] theorem absD_e (i : Int) : absD (.int i) = .ok (.int (i.natAbs : Int)) := by
  show Res.ok (D.int (if i < 0 then -i else i)) = _
  congr 2
  omega
@[simp] theorem lenD_lst (xs : List D) : lenD (.lst xs) = .ok (.int xs.length) := (rfl)
@[simp] theorem lenD_tup (xs : List D) : lenD (.tup xs) = .ok (.int xs.length) := (rfl)
@[simp] theorem lenD_scr (ns : List Int) : lenD (.scr ns) = .ok (.int ns.length) := (rfl)
@[simp] theorem tupD_lst (xs : List D) : tupD (.lst xs) = .ok (.tup xs) := (rfl)
@[simp] theorem tupD_tup (xs : List D) : tupD (.tup xs) = .ok (.tup xs) := (rfl)
@[simp] theorem eqD_int (neg : Bool) (i j : Int) : eqD neg (.int i) (.int j) = .ok (.bl (if neg = true then !decide (i = j) else decide (i = j))) := by
  unfold eqD
  simp only [py]
  rw [if_pos ⟨by rfl, by rfl⟩]
  congr 2
/-! indices -/
@[simp] theorem atI_z {α : Type} (x : α) (xs : List α) : atI (x :: xs) 0 = some x := by simp [L2.atI, ixN]
@[simp] theorem atI_one {α : Type} (x y : α) (xs : List α) : atI (x :: y :: xs) 1 = some y := by
  have h : ixN (x :: y :: xs).length 1 = some 1 := by
    unfold ixN
    rw [if_pos (by decide), if_pos (by rw [List.length_cons, List.length_cons]; omega)]
    rfl
  unfold L2.atI
  rw [h]
  rfl
theorem atI_nat' {α : Type} (xs : List α) (i : Nat) : atI xs (i : Int) = xs[i]? := by
  unfold L2.atI ixN
  by_cases h : i < xs.length
  · rw [if_pos (by omega), if_pos (by omega)]
    rfl
  · rw [if_pos (by omega), if_neg (by omega), List.getElem?_eq_none (by omega)]
    rfl
theorem ixN_end (n : Nat) : ixN (n + 1) (-1) = some n := by
  unfold ixN
  rw [if_neg (by decide), if_pos (by omega)]
  congr 1
  omega
@[simp] theorem atI_end {α : Type} (x : α) (xs : List α) : atI (xs ++ [x]) (-1) = some x := by
  unfold L2.atI
  rw [List.length_append, List.length_singleton, ixN_end]
  simp
@[simp] theorem ixD_tup (xs : List D) (i : Int) : ixD (.tup xs) (.int i) = match atI xs i with | some d => .ok d | none => .no := (rfl)
@[simp] theorem ixD_lst (xs : List D) (i : Int) : ixD (.lst xs) (.int i) = match atI xs i with | some d => .ok d | none => .no := (rfl)
@[simp] theorem ixD_scr (xs : List Int) (i : Int) : ixD (.scr xs) (.int i) = match atI xs i with | some n => .ok (.int n) | none => .no := (rfl)
/-! blocks -/
@[simp] theorem oNil_e (ρ : Ev0) : oNil ρ = .nx ρ := (rfl)
@[simp] theorem oBrk_e (ρ : Ev0) : oBrk ρ = .bk ρ := (rfl)
@[simp] theorem oCnt_e (ρ : Ev0) : oCnt ρ = .ct ρ := (rfl)
@[simp] theorem oRet_e (g : Ev0 → Res D) (ρ : Ev0) : oRet g ρ = rOut (g ρ) Out.rt := (rfl)
@[simp] theorem oRetN_e (ρ : Ev0) : oRetN ρ = .rt .non := (rfl)
def kSet (i : Nat) (ρ : Ev0) (d : D) : Out := .nx (ρ.set i (some d))
@[simp] theorem kSet_e (i : Nat) (ρ : Ev0) (d : D) : kSet i ρ d = .nx (ρ.set i (some d)) := (rfl)
@[simp] theorem oSet_e (i : Nat) (g : Ev0 → Res D) (ρ : Ev0) : oSet i g ρ = rOut (g ρ) (kSet i ρ) := (rfl)
@[simp] theorem oIf_e (f : Ev0 → Res Bool) (g h : Ev0 → Out) (ρ : Ev0) : oIf f g h ρ = rOut (f ρ) (kIf g h ρ) := (rfl)
def kNx : Res Ev0 → Out
  | .ok ρ' => .nx ρ'
  | _ => .no
@[simp] theorem kNx_e (ρ : Ev0) : kNx (.ok ρ) = .nx ρ := (rfl)
def kAsg (b : D → Ev0 → Res Ev0) (ρ : Ev0) (d : D) : Out := kNx (b d ρ)
@[simp] theorem kAsg_e (b : D → Ev0 → Res Ev0) (ρ : Ev0) (d : D) : kAsg b ρ d = kNx (b d ρ) := (rfl)
@[simp] theorem oAsg_e (g : Ev0 → Res D) (b : D → Ev0 → Res Ev0) (ρ : Ev0) : oAsg g b ρ = rOut (g ρ) (kAsg b ρ) := by
  unfold oAsg
  congr 1
def kFor (b : D → Ev0 → Res Ev0) (body : Ev0 → Out) (ρ : Ev0) (ds : List D) : Out := forO b body ds ρ
@[simp] theorem kFor_e (b : D → Ev0 → Res Ev0) (body : Ev0 → Out) (ρ : Ev0) (ds : List D) : kFor b body ρ ds = forO b body ds ρ := (rfl)
@[simp] theorem oFor_e (gi : Ev0 → Res (List D)) (b : D → Ev0 → Res Ev0) (body : Ev0 → Out) (ρ : Ev0) : oFor gi b body ρ = rOut (gi ρ) (kFor b body ρ) := (rfl)
def Out.then (o : Out) (h : Ev0 → Out) : Out := match o with
  | .nx ρ' => h ρ'
  | o => o
@[simp] theorem oSeq_e (g h : Ev0 → Out) (ρ : Ev0) : oSeq g h ρ = (g ρ).then h := (rfl)
@[simp] theorem then_nx (h : Ev0 → Out) (ρ : Ev0) : (Out.nx ρ).then h = h ρ := (rfl)
@[simp] theorem then_rt (h : Ev0 → Out) (d : D) : (Out.rt d).then h = .rt d := (rfl)
@[simp] theorem then_ct (h : Ev0 → Out) (ρ : Ev0) : (Out.ct ρ).then h = .ct ρ := (rfl)
@[simp] theorem then_bk (h : Ev0 → Out) (ρ : Ev0) : (Out.bk ρ).then h = .bk ρ := (rfl)
@[simp] theorem then_no (h : Ev0 → Out) : (Out.no).then h = .no := (rfl)
@[simp] theorem then_if (c : Prop) [Decidable c] (a b : Out) (h : Ev0 → Out) : (if c then a else b).then h = if c then a.then h else b.then h := by split <;> rfl
def kLs3 (i : Nat) (ρ : Ev0) : Option (List D) → Out
  | some ys => .nx (ρ.set i (some (.lst ys)))
  | none => .no
@[simp] theorem kLs3_e (i : Nat) (ρ : Ev0) (ys : List D) : kLs3 i ρ (some ys) = .nx (ρ.set i (some (.lst ys))) := (rfl)
def kLs2 (i : Nat) (f : List D → D → Option (List D)) (ρ : Ev0) (xs : List D) (d : D) : Out := kLs3 i ρ (f xs d)
@[simp] theorem kLs2_e (i : Nat) (f : List D → D → Option (List D)) (ρ : Ev0) (xs : List D) (d : D) : kLs2 i f ρ xs d = kLs3 i ρ (f xs d) := (rfl)
def kLs (i : Nat) (g : Ev0 → Res D) (f : List D → D → Option (List D)) (ρ : Ev0) : D → Out
  | .lst xs => rOut (g ρ) (kLs2 i f ρ xs)
  | _ => .no
@[simp] theorem kLs_e (i : Nat) (g : Ev0 → Res D) (f : List D → D → Option (List D)) (ρ : Ev0) (xs : List D) : kLs i g f ρ (.lst xs) = rOut (g ρ) (kLs2 i f ρ xs) := (rfl)
@[simp] theorem oLst_e (i : Nat) (g : Ev0 → Res D) (f : List D → D → Option (List D)) (ρ : Ev0) : oLst i g f ρ = rOut (gVar i ρ) (kLs i g f ρ) := by
  unfold oLst gVar
  cases h : ρ[i]? with
  | none => rfl
  | some o =>
    cases o with
    | none => rfl
    | some d =>
      cases d <;> rfl
def kSx2 (i : Nat) (xs : List D) (d : D) (ρ : Ev0) (j : D) : Out := kLs3 i ρ (setJ xs d j)
@[simp] theorem kSx2_e (i : Nat) (xs : List D) (d : D) (ρ : Ev0) (j : D) : kSx2 i xs d ρ j = kLs3 i ρ (setJ xs d j) := (rfl)
def kSx1 (i : Nat) (gj : Ev0 → Res D) (ρ : Ev0) (d : D) : D → Out
  | .lst xs => rOut (gj ρ) (kSx2 i xs d ρ)
  | _ => .no
@[simp] theorem kSx1_e (i : Nat) (gj : Ev0 → Res D) (ρ : Ev0) (d : D) (xs : List D) : kSx1 i gj ρ d (.lst xs) = rOut (gj ρ) (kSx2 i xs d ρ) := (rfl)
def kSx (i : Nat) (gj : Ev0 → Res D) (ρ : Ev0) (d : D) : Out := rOut (gVar i ρ) (kSx1 i gj ρ d)
@[simp] theorem kSx_e (i : Nat) (gj : Ev0 → Res D) (ρ : Ev0) (d : D) : kSx i gj ρ d = rOut (gVar i ρ) (kSx1 i gj ρ d) := (rfl)
@[simp] theorem oSetIx_e (i : Nat) (ga gj : Ev0 → Res D) (ρ : Ev0) : oSetIx i ga gj ρ = rOut (ga ρ) (kSx i gj ρ) := by
  unfold oSetIx
  congr 1
  funext d
  show _ = rOut (gVar i ρ) (kSx1 i gj ρ d)
  unfold gVar
  cases h : ρ[i]? with
  | none => rfl
  | some o =>
    cases o with
    | none => rfl
    | some e =>
      cases e <;> rfl
@[simp] theorem fApp_e (xs : List D) (d : D) : fApp xs d = if xs.length < sizeLine then some (xs ++ [d]) else none := (rfl)
@[simp] theorem fExt_e (xs ys : List D) : fExt xs (.lst ys) = if xs.length + ys.length ≤ sizeLine then some (xs ++ ys) else none := (rfl)
@[simp] theorem setJ_end (xs : List D) (x d : D) : setJ (xs ++ [x]) d (.int (-1)) = some (xs ++ [d]) := by
  unfold setJ
  dsimp only
  rw [List.length_append, List.length_singleton, ixN_end]
  simp
@[simp] theorem bName_e (i : Nat) (d : D) (ρ : Ev0) : bName i d ρ = .ok (ρ.set i (some d)) := (rfl)
@[simp] theorem bNil_e (ρ : Ev0) : bNil [] ρ = .ok ρ := (rfl)
def kB (bs : List D → Ev0 → Res Ev0) (r : List D) : Res Ev0 → Res Ev0
  | .ok ρ1 => bs r ρ1
  | _ => .no
@[simp] theorem kB_e (bs : List D → Ev0 → Res Ev0) (r : List D) (ρ : Ev0) : kB bs r (.ok ρ) = bs r ρ := (rfl)
@[simp] theorem bCons_e (b : D → Ev0 → Res Ev0) (bs : List D → Ev0 → Res Ev0) (d : D) (r : List D) (ρ : Ev0) : bCons b bs (d :: r) ρ = kB bs r (b d ρ) := by
  show (match b d ρ with | .ok ρ1 => bs r ρ1 | _ => .no) = _
  cases b d ρ <;> rfl
@[simp] theorem bTup_c (n : Nat) (bs : List D → Ev0 → Res Ev0) (ds : List D) (ρ : Ev0) : bTup n bs (.ctup ds) ρ = if ds.length = n then bs ds ρ else .no := (rfl)
@[simp] theorem ixD_ctup (xs : List D) (i : Int) : ixD (.ctup xs) (.int i) = match atI xs i with | some d => .ok d | none => .no := (rfl)
@[simp] theorem bTup_l (n : Nat) (bs : List D → Ev0 → Res Ev0) (ds : List D) (ρ : Ev0) : bTup n bs (.lst ds) ρ = if ds.length = n then bs ds ρ else .no := (rfl)
@[simp] theorem bTup_e (n : Nat) (bs : List D → Ev0 → Res Ev0) (ds : List D) (ρ : Ev0) : bTup n bs (.tup ds) ρ = if ds.length = n then bs ds ρ else .no := (rfl)
def seqD : D → Res (List D)
  | .lst ds => .ok ds
  | .tup ds => .ok ds
  | .scr ns => .ok (ns.map .int)
  | .ctup ds => .ok ds
  | _ => .no
@[simp] theorem seqD_c (ds : List D) : seqD (.ctup ds) = .ok ds := (rfl)
@[simp] theorem seqD_l (ds : List D) : seqD (.lst ds) = .ok ds := (rfl)
@[simp] theorem seqD_t (ds : List D) : seqD (.tup ds) = .ok ds := (rfl)
@[simp] theorem seqD_s (ns : List Int) : seqD (.scr ns) = .ok (ns.map .int) := (rfl)
@[simp] theorem gSeq_e (g : Ev0 → Res D) (ρ : Ev0) : gSeq g ρ = (g ρ).bind seqD := by
  unfold gSeq
  congr 1
@[simp] theorem gYes_e (ρ : Ev0) : gYes ρ = .ok true := (rfl)
def kComp (vs : List Nat) (b : D → Ev0 → Res Ev0) (gt : Ev0 → Res Bool) (ge : Ev0 → Res D) (ρ : Ev0) (ds : List D) : Res D := (compO vs b gt ge ρ ds).bind kLst
theorem compO_ne {vs : List Nat} {b : D → Ev0 → Res Ev0} {gt : Ev0 → Res Bool} {ge : Ev0 → Res D} {ρ : Ev0} {c : Str} : ∀ ds : List D, compO vs b gt ge ρ ds ≠ .ex c
  | [], h => by cases h
  | d :: ds, h => by
    have ih := compO_ne (vs := vs) (b := b) (gt := gt) (ge := ge) (ρ := ρ) (c := c) ds
    unfold compO at h
    split at h
    · split at h
      · split at h <;> cases h
      · exact ih h
      · cases h
    · cases h
theorem gComp_e (vs : List Nat) (gi : Ev0 → Res (List D)) (b : D → Ev0 → Res Ev0) (gt : Ev0 → Res Bool) (ge : Ev0 → Res D) (ρ : Ev0) : gComp vs gi b gt ge ρ = (gi ρ).bind (kComp vs b gt ge ρ) := by
  unfold gComp
  congr 1
  funext ds
  unfold kComp
  cases h : compO vs b gt ge ρ ds with
  | ok r => rfl
  | ex c => exact absurd h (compO_ne ds)
  | no => rfl
/-- a list made by for, its items as told -/
theorem compO_map {α : Type} {vs : List Nat} {b : D → Ev0 → Res Ev0} {gt : Ev0 → Res Bool} {ge : Ev0 → Res D} {ρ : Ev0} (enc : α → D) (p : α → Bool) (f : α → D) : ∀ {xs : List α},
    (∀ x ∈ xs, ∃ ρ1, b (enc x) (wipeE ρ vs) = .ok ρ1 ∧ gt ρ1 = .ok (p x) ∧ (p x = true → ge ρ1 = .ok (f x))) → compO vs b gt ge ρ (xs.map enc) = .ok ((xs.filter p).map f)
  | [], _ => rfl
  | x :: xs, h => by
    obtain ⟨ρ1, h1, h2, h3⟩ := h x List.mem_cons_self
    have ih := compO_map (vs := vs) (b := b) (gt := gt) (ge := ge) (ρ := ρ) enc p f (xs := xs) fun y hy => h y (List.mem_cons_of_mem _ hy)
    rw [List.map_cons]
    unfold compO
    rw [h1]
    dsimp only
    rw [h2]
    cases hp : p x with
    | true =>
      rw [h3 hp, ih]
      simp [hp]
    | false =>
      dsimp only
      rw [ih]
      simp [hp]
theorem compO_all {α : Type} {vs : List Nat} {b : D → Ev0 → Res Ev0} {ge : Ev0 → Res D} {ρ : Ev0} (enc : α → D) (f : α → D) {xs : List α}
    (h : ∀ x ∈ xs, ∃ ρ1, b (enc x) (wipeE ρ vs) = .ok ρ1 ∧ ge ρ1 = .ok (f x)) : compO vs b gYes ge ρ (xs.map enc) = .ok (xs.map f) := by
  have := compO_map (vs := vs) (b := b) (gt := gYes) (ge := ge) (ρ := ρ) enc (fun _ => true) f (xs := xs) fun x hx => by
    obtain ⟨ρ1, h1, h2⟩ := h x hx
    exact ⟨ρ1, h1, rfl, fun _ => h2⟩
  rw [this, List.filter_eq_self.mpr fun _ _ => rfl]
theorem gComp_all {α : Type} {vs : List Nat} {gi : Ev0 → Res (List D)} {b : D → Ev0 → Res Ev0} {ge : Ev0 → Res D} {ρ : Ev0} (enc : α → D) (f : α → D) {xs : List α} (hi : gi ρ = .ok (xs.map enc)) (hl : xs.length ≤ sizeLine)
    (h : ∀ x ∈ xs, ∃ ρ1, b (enc x) (wipeE ρ vs) = .ok ρ1 ∧ ge ρ1 = .ok (f x)) : gComp vs gi b gYes ge ρ = .ok (.lst (xs.map f)) := by
  rw [gComp_e, hi]
  show kComp vs b gYes ge ρ (xs.map enc) = _
  unfold kComp
  rw [compO_all enc f h]
  exact kLst_ok (by rw [List.length_map]; exact hl)
theorem gComp_map {α : Type} {vs : List Nat} {gi : Ev0 → Res (List D)} {b : D → Ev0 → Res Ev0} {gt : Ev0 → Res Bool} {ge : Ev0 → Res D} {ρ : Ev0} (enc : α → D) (p : α → Bool) (f : α → D) {xs : List α} (hi : gi ρ = .ok (xs.map enc)) (hl : xs.length ≤ sizeLine)
    (h : ∀ x ∈ xs, ∃ ρ1, b (enc x) (wipeE ρ vs) = .ok ρ1 ∧ gt ρ1 = .ok (p x) ∧ (p x = true → ge ρ1 = .ok (f x))) : gComp vs gi b gt ge ρ = .ok (.lst ((xs.filter p).map f)) := by
  rw [gComp_e, hi]
  show kComp vs b gt ge ρ (xs.map enc) = _
  unfold kComp
  rw [compO_map enc p f h]
  exact kLst_ok (by rw [List.length_map]; exact Nat.le_trans (List.length_filter_le _ _) hl)
/-- a loop without an early end, by what it keeps -/
theorem forO_inv {α σ : Type} {b : D → Ev0 → Res Ev0} {body : Ev0 → Out} (enc : α → D) (R : σ → Ev0 → Prop) (step : σ → α → σ) : ∀ (xs : List α) (s : σ) (ρ : Ev0),
    (∀ x ∈ xs, ∀ s ρ, R s ρ → ∃ ρ1 ρ2, b (enc x) ρ = .ok ρ1 ∧ (body ρ1 = .nx ρ2 ∨ body ρ1 = .ct ρ2) ∧ R (step s x) ρ2) → R s ρ → ∃ ρ', forO b body (xs.map enc) ρ = .nx ρ' ∧ R (xs.foldl step s) ρ'
  | [], s, ρ, _, r => ⟨ρ, rfl, r⟩
  | x :: xs, s, ρ, h, r => by
    obtain ⟨ρ1, ρ2, h1, h2, h3⟩ := h x List.mem_cons_self s ρ r
    obtain ⟨ρ', h4, h5⟩ := forO_inv enc R step xs (step s x) ρ2 (fun y hy => h y (List.mem_cons_of_mem _ hy)) h3
    refine ⟨ρ', ?_, h5⟩
    rw [List.map_cons]
    unfold forO
    rw [h1]
    dsimp only
    rcases h2 with h2 | h2 <;> (rw [h2]; exact h4)
/-- the same with a count of the steps -/
theorem forO_ix {α σ : Type} {b : D → Ev0 → Res Ev0} {body : Ev0 → Out} (enc : α → D) (R : Nat → σ → Ev0 → Prop) (step : σ → α → σ) : ∀ (xs : List α) (n : Nat) (s : σ) (ρ : Ev0),
    (∀ i (hi : i < xs.length) s ρ, R (n + i) s ρ → ∃ ρ1 ρ2, b (enc xs[i]) ρ = .ok ρ1 ∧ (body ρ1 = .nx ρ2 ∨ body ρ1 = .ct ρ2) ∧ R (n + i + 1) (step s xs[i]) ρ2) → R n s ρ → ∃ ρ', forO b body (xs.map enc) ρ = .nx ρ' ∧ R (n + xs.length) (xs.foldl step s) ρ'
  | [], n, s, ρ, _, r => ⟨ρ, rfl, r⟩
  | x :: xs, n, s, ρ, h, r => by
    obtain ⟨ρ1, ρ2, h1, h2, h3⟩ := h 0 (Nat.zero_lt_succ _) s ρ r
    obtain ⟨ρ', h4, h5⟩ := forO_ix enc R step xs (n + 1) (step s x) ρ2 (fun i hi s ρ r => by
      have := h (i + 1) (by rw [List.length_cons]; omega) s ρ (by rw [show n + (i + 1) = n + 1 + i by omega]; exact r)
      rw [show n + (i + 1) + 1 = n + 1 + i + 1 by omega] at this
      exact this) h3
    refine ⟨ρ', ?_, by rw [List.length_cons, show n + (xs.length + 1) = n + 1 + xs.length by omega]; exact h5⟩
    rw [List.map_cons]
    unfold forO
    have h1 : b (enc x) ρ = .ok ρ1 := h1
    rw [h1]
    dsimp only
    rcases h2 with h2 | h2 <;> (rw [h2]; exact h4)
/-- a def's end -/
def kFn (k : Kd) : Out → Res D
  | .nx _ => match k with
    | .sh => .ok .non
    | _ => .no
  | .rt d => .ok d
  | .ex c => .ex c
  | _ => .no
@[simp] theorem kFn_rt (k : Kd) (d : D) : kFn k (.rt d) = .ok d := (rfl)
@[simp] theorem kFn_nx (ρ : Ev0) : kFn .sh (.nx ρ) = .ok .non := (rfl)
@[simp] theorem kFn_ex (k : Kd) (c : Str) : kFn k (.ex c) = .ex c := (rfl)
@[simp] theorem kFn_if (k : Kd) (c : Prop) [Decidable c] (a b : Out) : kFn k (if c then a else b) = if c then kFn k a else kFn k b := by split <;> rfl
theorem fnG_e (n : Nat) (k : Kd) (body : Ev0 → Out) (ds : List D) : fnG n k body ds = kFn k (body (ds.map some ++ List.replicate (n - ds.length) none)) := by
  unfold fnG
  cases body (ds.map some ++ List.replicate (n - ds.length) none) <;> rfl
@[simp] theorem rep_0 : List.replicate 0 (none : Option D) = [] := (rfl)
@[simp] theorem rep_s (n : Nat) : List.replicate (n + 1) (none : Option D) = none :: List.replicate n none := (rfl)
@[simp] theorem wipeE_nil (ρ : Ev0) : wipeE ρ [] = ρ := (rfl)
@[simp] theorem wipeE_cons (ρ : Ev0) (v : Nat) (vs : List Nat) : wipeE ρ (v :: vs) = (wipeE ρ vs).set v none := (rfl)
/-- pairs of whole numbers, and rows of them -/
def eP (p : Int × Int) : D := .tup [.int p.1, .int p.2]
def eR (r : List (Int × Int)) : D := .tup (r.map eP)
@[simp] theorem bTup_eP (bs : List D → Ev0 → Res Ev0) (p : Int × Int) (ρ : Ev0) : bTup 2 bs (eP p) ρ = bs [.int p.1, .int p.2] ρ := (rfl)
@[simp] theorem seqD_eR (r : List (Int × Int)) : seqD (eR r) = .ok (r.map eP) := (rfl)
@[simp] theorem lenD_eR (r : List (Int × Int)) : lenD (eR r) = .ok (.int r.length) := by simp [eR]
@[simp] theorem eP_z (p : Int × Int) : ixD (eP p) (.int 0) = .ok (.int p.1) := by simp [eP]
@[simp] theorem eP_o (p : Int × Int) : ixD (eP p) (.int 1) = .ok (.int p.2) := by simp [eP]
theorem eP_mk (a b : Int) : D.tup [.int a, .int b] = eP (a, b) := rfl
end FL
namespace FL
open PySem L2
/-! data that == tells apart just as they are -/
def Dat : Nat → D → Prop
  | _, .non => True
  | _, .int _ => True
  | _, .str s => PyData.strOk s = true
  | n + 1, .tup xs => ∀ x ∈ xs, Dat n x
  | n + 1, .lst xs => ∀ x ∈ xs, Dat n x
  | _, _ => False
theorem py_all {n : Nat} (ih : ∀ x, Dat n x → ∃ p, py x = some p ∧ p.canLay0 = true ∧ p.depth ≤ n) : ∀ xs : List D, (∀ x ∈ xs, Dat n x) → ∃ ps, pyL xs = some ps ∧ PyData.canLayAll0 ps = true ∧ PyData.depthAll ps ≤ n
  | [], _ => ⟨[], rfl, rfl, Nat.zero_le _⟩
  | x :: xs, h => by
    obtain ⟨p, h1, h2, h3⟩ := ih x (h x List.mem_cons_self)
    obtain ⟨ps, h4, h5, h6⟩ := py_all ih xs fun y hy => h y (List.mem_cons_of_mem _ hy)
    refine ⟨p :: ps, by unfold pyL; rw [h1, h4], ?_, ?_⟩
    · show (p.canLay0 && PyData.canLayAll0 ps) = true
      rw [h2, h5]; rfl
    · show max p.depth (PyData.depthAll ps) ≤ n
      omega
theorem dat_py : ∀ (n : Nat) (d : D), Dat n d → ∃ p, py d = some p ∧ p.canLay0 = true ∧ p.depth ≤ n := by
  intro n
  induction n with
  | zero =>
    intro d h
    cases d <;> first
      | exact absurd h id
      | exact ⟨_, rfl, rfl, Nat.zero_le _⟩
      | exact ⟨_, rfl, h, Nat.zero_le _⟩
  | succ n ih =>
    intro d h
    cases d with
    | tup xs =>
      obtain ⟨ps, h1, h2, h3⟩ := py_all ih xs h
      exact ⟨.tuple ps, by unfold py; rw [h1]; rfl, h2, Nat.succ_le_succ h3⟩
    | lst xs =>
      obtain ⟨ps, h1, h2, h3⟩ := py_all ih xs h
      exact ⟨.list ps, by unfold py; rw [h1]; rfl, h2, Nat.succ_le_succ h3⟩
    | str s => exact ⟨_, rfl, h, Nat.zero_le _⟩
    | non => exact ⟨_, rfl, rfl, Nat.zero_le _⟩
    | int i => exact ⟨_, rfl, rfl, Nat.zero_le _⟩
    | bl b => exact absurd h id
    | dK _ => exact absurd h id
    | dT _ => exact absurd h id
    | obj _ _ => exact absurd h id
    | scr _ => exact absurd h id
    | ctup _ => exact absurd h id
theorem eqv_all {n : Nat} (ih : ∀ a b p q, Dat n a → Dat n b → py a = some p → py b = some q → PyData.eqv p q = true → a = b) : ∀ (xs ys : List D) (ps qs : List PyData), (∀ x ∈ xs, Dat n x) → (∀ x ∈ ys, Dat n x) → pyL xs = some ps → pyL ys = some qs → PyData.eqvAll ps qs = true → xs = ys
  | [], [], _, _, _, _, _, _, _ => rfl
  | [], y :: ys, ps, qs, _, hy, h1, h2, h => by
    cases h1
    unfold pyL at h2
    split at h2
    · cases h2
      simp [PyData.eqvAll] at h
    · cases h2
  | x :: xs, [], ps, qs, _, hy, h1, h2, h => by
    cases h2
    unfold pyL at h1
    split at h1
    · cases h1
      simp [PyData.eqvAll] at h
    · cases h1
  | x :: xs, y :: ys, ps, qs, hx, hy, h1, h2, h => by
    unfold pyL at h1 h2
    split at h1
    · rename_i p ps e1 e2
      cases h1
      split at h2
      · rename_i q qs e3 e4
        cases h2
        simp only [PyData.eqvAll, Bool.and_eq_true] at h
        have z1 := ih x y p q (hx x List.mem_cons_self) (hy y List.mem_cons_self) e1 e3 h.1
        have z2 := eqv_all ih xs ys ps qs (fun u hu => hx u (List.mem_cons_of_mem _ hu)) (fun u hu => hy u (List.mem_cons_of_mem _ hu)) e2 e4 h.2
        rw [z1, z2]
      · cases h2
    · cases h1
theorem dat_eq : ∀ (n : Nat) (a b : D) (p q : PyData), Dat n a → Dat n b → py a = some p → py b = some q → PyData.eqv p q = true → a = b := by
  intro n
  induction n with
  | zero =>
    intro a b p q ha hb h1 h2 h
    cases a <;> cases b <;> first
      | exact absurd ha id
      | exact absurd hb id
      | (cases h1; cases h2; simp [PyData.eqv] at h; first | rfl | (rw [h]) | done)
  | succ n ih =>
    intro a b p q ha hb h1 h2 h
    cases a <;> cases b <;> first
      | exact absurd ha id
      | exact absurd hb id
      | (cases h1; cases h2; simp [PyData.eqv] at h; first | rfl | (rw [h]) | done)
      | (unfold py at h1 h2
         rw [Option.map_eq_some_iff] at h1 h2
         obtain ⟨ps, e1, rfl⟩ := h1
         obtain ⟨qs, e2, rfl⟩ := h2
         first
          | (simp only [PyData.eqv] at h
             rw [eqv_all ih _ _ ps qs ha hb e1 e2 h])
          | simp [PyData.eqv] at h)
      | (unfold py at h1
         rw [Option.map_eq_some_iff] at h1
         obtain ⟨ps, e1, rfl⟩ := h1
         cases h2
         simp [PyData.eqv] at h)
      | (unfold py at h2
         rw [Option.map_eq_some_iff] at h2
         obtain ⟨ps, e1, rfl⟩ := h2
         cases h1
         simp [PyData.eqv] at h)
theorem eqD_same {n : Nat} {a : D} (neg : Bool) (hn : n ≤ 64) (h : Dat n a) : eqD neg a a = .ok (.bl (!neg)) := by
  obtain ⟨p, h1, h2, h3⟩ := dat_py n a h
  have hs : SeqAt.shaped p = true := by
    show (p.canLay0 && decide (p.depth ≤ 64)) = true
    rw [h2, decide_eq_true (by omega)]; rfl
  unfold eqD
  rw [h1]
  dsimp only
  rw [if_pos ⟨hs, hs⟩, PySem.SeqAt.eqv_refl p h2]
  cases neg <;> rfl
theorem eqD_diff {n : Nat} {a b : D} (neg : Bool) (hn : n ≤ 64) (ha : Dat n a) (hb : Dat n b) (h : a ≠ b) : eqD neg a b = .ok (.bl neg) := by
  obtain ⟨p, h1, h2, h3⟩ := dat_py n a ha
  obtain ⟨q, k1, k2, k3⟩ := dat_py n b hb
  have hs : SeqAt.shaped p = true := by
    show (p.canLay0 && decide (p.depth ≤ 64)) = true
    rw [h2, decide_eq_true (by omega)]; rfl
  have ht : SeqAt.shaped q = true := by
    show (q.canLay0 && decide (q.depth ≤ 64)) = true
    rw [k2, decide_eq_true (by omega)]; rfl
  unfold eqD
  rw [h1, k1]
  dsimp only
  rw [if_pos ⟨hs, ht⟩]
  cases hv : PyData.eqv p q with
  | true => exact absurd (dat_eq n a b p q ha hb h1 k1 hv) h
  | false => cases neg <;> rfl
theorem dat_eP (n : Nat) (p : Int × Int) : Dat (n + 1) (eP p) := by
  intro x hx
  rcases List.mem_cons.mp hx with rfl | hx
  · cases n <;> trivial
  · rcases List.mem_cons.mp hx with rfl | hx
    · cases n <;> trivial
    · cases hx
theorem dat_eR (n : Nat) (r : List (Int × Int)) : Dat (n + 2) (eR r) := by
  intro x hx
  obtain ⟨p, _, rfl⟩ := List.mem_map.mp hx
  exact dat_eP n p
@[simp] theorem eqD_eR_same (neg : Bool) (r : List (Int × Int)) : eqD neg (eR r) (eR r) = .ok (.bl (!neg)) := eqD_same neg (by decide : 2 ≤ 64) (dat_eR 0 r)
@[simp] theorem eqD_eP_same (neg : Bool) (r : Int × Int) : eqD neg (eP r) (eP r) = .ok (.bl (!neg)) := eqD_same neg (by decide : 1 ≤ 64) (dat_eP 0 r)
theorem eP_inj {a b : Int × Int} (h : eP a = eP b) : a = b := by
  have := D.tup.inj h
  simp at this
  exact Prod.ext this.1 this.2
theorem eR_inj {a b : List (Int × Int)} (h : eR a = eR b) : a = b := List.map_inj_right (fun _ _ => eP_inj) |>.mp (D.tup.inj h)
@[simp] theorem mulOk_r {i j : Int} (h : -(2 ^ 64) < j ∧ j < 2 ^ 64) : mulOk i j = true := by
  unfold mulOk
  rw [decide_eq_true h]
  simp
theorem mulOk_l {i j : Int} (h : -(2 ^ 64) < i ∧ i < 2 ^ 64) : mulOk i j = true := by
  unfold mulOk
  rw [decide_eq_true h]
  simp
theorem divOk_of {i j : Int} (h : 0 < j ∧ j.natAbs.log2 < 9000) : divOk i j = true := decide_eq_true h
theorem powOk_of {i j : Int} (h : 0 ≤ j ∧ j ≤ 1000000 ∧ i.natAbs < 2 ^ 64) : powOk i j = true := decide_eq_true h
@[simp] theorem divOk_s {i j : Int} (h : 0 < j) (h2 : j < 2 ^ 64) : divOk i j = true := by
  refine divOk_of ⟨h, ?_⟩
  have : j.natAbs.log2 < 64 := (Nat.log2_lt (by omega)).mpr (by omega)
  omega
@[simp] theorem powOk_s {i j : Int} (h : 0 ≤ j) (h2 : j ≤ 1000000) (h3 : 0 ≤ i) (h4 : i < 2 ^ 64) : powOk i j = true := powOk_of ⟨h, h2, by omega⟩
/-! slices of a list of whole numbers -/
theorem cutD_map {α : Type} (f : α → D) (xs : List α) (lo hi : Option Int) : ∃ ys : List α, cutD (xs.map f) lo hi = ys.map f ∧ (∀ y ∈ ys, y ∈ xs) ∧ ys.length ≤ HT.sIx xs.length xs.length hi - HT.sIx xs.length 0 lo ∧ ys.length ≤ xs.length := by
  refine ⟨(xs.drop (HT.sIx xs.length 0 lo)).take (HT.sIx xs.length xs.length hi - HT.sIx xs.length 0 lo), ?_, fun y hy => List.mem_of_mem_drop (List.mem_of_mem_take hy), ?_, ?_⟩
  · unfold cutD
    rw [List.length_map, List.map_take, List.map_drop]
  · rw [List.length_take]
    exact Nat.min_le_left _ _
  · rw [List.length_take, List.length_drop]
    omega
@[simp] theorem slL_scr (ns : List Int) (lo hi : Option Int) : slL (.scr ns) lo hi = .ok (.lst (cutD (ns.map .int) lo hi)) := (rfl)
@[simp] theorem slL_lst (xs : List D) (lo hi : Option Int) : slL (.lst xs) lo hi = .ok (.lst (cutD xs lo hi)) := (rfl)
@[simp] theorem slT_tup (xs : List D) (lo hi : Option Int) : slT (.tup xs) lo hi = .ok (.tup (cutD xs lo hi)) := (rfl)
def kSl3 (op : D → Option Int → Option Int → Res D) (a : D) (lo hi : Option Int) : Res D := op a lo hi
def kSl2 (h : Option (Ev0 → Res D)) (op : D → Option Int → Option Int → Res D) (ρ : Ev0) (a : D) (lo : Option Int) : Res D := (gOpt h ρ).bind (kSl3 op a lo)
def kSl (l h : Option (Ev0 → Res D)) (op : D → Option Int → Option Int → Res D) (ρ : Ev0) (a : D) : Res D := (gOpt l ρ).bind (kSl2 h op ρ a)
@[simp] theorem kSl3_e (op : D → Option Int → Option Int → Res D) (a : D) (lo hi : Option Int) : kSl3 op a lo hi = op a lo hi := (rfl)
@[simp] theorem kSl2_e (h : Option (Ev0 → Res D)) (op : D → Option Int → Option Int → Res D) (ρ : Ev0) (a : D) (lo : Option Int) : kSl2 h op ρ a lo = (gOpt h ρ).bind (kSl3 op a lo) := (rfl)
@[simp] theorem kSl_e (l h : Option (Ev0 → Res D)) (op : D → Option Int → Option Int → Res D) (ρ : Ev0) (a : D) : kSl l h op ρ a = (gOpt l ρ).bind (kSl2 h op ρ a) := (rfl)
@[simp] theorem gSl_e (g : Ev0 → Res D) (l h : Option (Ev0 → Res D)) (op : D → Option Int → Option Int → Res D) (ρ : Ev0) : gSl g l h op ρ = (g ρ).bind (kSl l h op ρ) := (rfl)
@[simp] theorem gOpt_n (ρ : Ev0) : gOpt none ρ = .ok none := (rfl)
def optI : D → Res (Option Int)
  | .int i => .ok (some i)
  | _ => .no
@[simp] theorem optI_e (i : Int) : optI (.int i) = .ok (some i) := (rfl)
@[simp] theorem gOpt_s (f : Ev0 → Res D) (ρ : Ev0) : gOpt (some f) ρ = (f ρ).bind optI := by
  show (f ρ).bind _ = _
  congr 1
/-! ranges, types of values -/
def rng1D : D → Res (List D)
  | .int j => if rgOk j = true then .ok (rngD 0 j.toNat) else .no
  | _ => .no
@[simp] theorem rng1D_e (j : Int) : rng1D (.int j) = if rgOk j = true then .ok (rngD 0 j.toNat) else .no := (rfl)
@[simp] theorem gRng1_e (g : Ev0 → Res D) (ρ : Ev0) : gRng1 g ρ = (g ρ).bind rng1D := by
  show (g ρ).bind _ = _
  congr 1
def rng2D (d e : D) : Res (List D) := match d, e with
  | .int i, .int j => .ok (rngD i (j - i).toNat)
  | _, _ => .no
@[simp] theorem rng2D_e (i j : Int) : rng2D (.int i) (.int j) = .ok (rngD i (j - i).toNat) := (rfl)
def kRng2 (h : Ev0 → Res D) (ρ : Ev0) (d : D) : Res (List D) := (h ρ).bind (rng2D d)
@[simp] theorem kRng2_e (h : Ev0 → Res D) (ρ : Ev0) (d : D) : kRng2 h ρ d = (h ρ).bind (rng2D d) := (rfl)
@[simp] theorem gRng2_e (g h : Ev0 → Res D) (ρ : Ev0) : gRng2 g h ρ = (g ρ).bind (kRng2 h ρ) := (rfl)
theorem rngD_0 (n : Nat) : rngD 0 n = (List.range n).map fun i => D.int (i : Nat) := by
  unfold rngD
  congr 1
  funext i
  simp
theorem rgOk_len {n : Nat} (h : n ≤ sizeLine) : rgOk (n : Int) = true := by
  rw [sizeL] at h
  exact rgOk_iff.mpr ⟨by omega, by omega⟩
@[simp] theorem isi_tuple_t (xs : List D) : isiG "tuple" (.tup xs) = .ok (.bl true) := (rfl)
@[simp] theorem isi_tuple_eR (r : List (Int × Int)) : isiG "tuple" (eR r) = .ok (.bl true) := (rfl)
@[simp] theorem isi_tuple_eP (r : Int × Int) : isiG "tuple" (eP r) = .ok (.bl true) := (rfl)
@[simp] theorem isi_int_i (i : Int) : isiG "int" (.int i) = .ok (.bl true) := (rfl)
@[simp] theorem isi_bool_i (i : Int) : isiG "bool" (.int i) = .ok (.bl false) := (rfl)
end FL
namespace FL
open PySem L2
/-! more of loops and of values -/
/-- a loop that ends at the first item of a kind -/
theorem forO_find {α : Type} {b : D → Ev0 → Res Ev0} {body : Ev0 → Out} (enc : α → D) (R : Ev0 → Prop) (p : α → Bool) (d : α → D) : ∀ (xs : List α) (ρ : Ev0),
    (∀ x ∈ xs, ∀ ρ, R ρ → ∃ ρ1, b (enc x) ρ = .ok ρ1 ∧ (p x = true → body ρ1 = .rt (d x)) ∧ (p x = false → ∃ ρ2, (body ρ1 = .nx ρ2 ∨ body ρ1 = .ct ρ2) ∧ R ρ2)) → R ρ →
    (∃ x, xs.find? p = some x ∧ forO b body (xs.map enc) ρ = .rt (d x)) ∨ (xs.find? p = none ∧ ∃ ρ', forO b body (xs.map enc) ρ = .nx ρ' ∧ R ρ')
  | [], ρ, _, r => .inr ⟨rfl, ρ, rfl, r⟩
  | x :: xs, ρ, h, r => by
    obtain ⟨ρ1, h1, h2, h3⟩ := h x List.mem_cons_self ρ r
    rw [List.map_cons]
    unfold forO
    rw [h1]
    dsimp only
    cases hp : p x with
    | true => exact .inl ⟨x, by rw [List.find?_cons, hp], by rw [h2 hp]⟩
    | false =>
      obtain ⟨ρ2, h4, h5⟩ := h3 hp
      have ih := forO_find enc R p d xs ρ2 (fun y hy => h y (List.mem_cons_of_mem _ hy)) h5
      rw [List.find?_cons, hp]
      rcases h4 with h4 | h4 <;> (rw [h4]; exact ih)
/-- .. with one answer for all: is there one? -/
theorem forO_any {α : Type} {b : D → Ev0 → Res Ev0} {body : Ev0 → Out} (enc : α → D) (R : Ev0 → Prop) (p : α → Bool) (d : D) (xs : List α) (ρ : Ev0)
    (h : ∀ x ∈ xs, ∀ ρ, R ρ → ∃ ρ1, b (enc x) ρ = .ok ρ1 ∧ (p x = true → body ρ1 = .rt d) ∧ (p x = false → ∃ ρ2, (body ρ1 = .nx ρ2 ∨ body ρ1 = .ct ρ2) ∧ R ρ2)) (r : R ρ) :
    (xs.any p = true ∧ forO b body (xs.map enc) ρ = .rt d) ∨ (xs.any p = false ∧ ∃ ρ', forO b body (xs.map enc) ρ = .nx ρ' ∧ R ρ') := by
  rcases forO_find enc R p (fun _ => d) xs ρ h r with ⟨x, h1, h2⟩ | ⟨h1, h2⟩
  · exact .inl ⟨List.any_eq_true.mpr ⟨x, List.mem_of_find?_eq_some h1, List.find?_some h1⟩, h2⟩
  · refine .inr ⟨?_, h2⟩
    rw [List.any_eq_false]
    exact fun x hx => List.find?_eq_none.mp h1 x hx
theorem foldl_app {α β : Type} (f : α → List β) : ∀ (xs : List α) (acc : List β), xs.foldl (fun a x => a ++ f x) acc = acc ++ xs.flatMap f
  | [], acc => by simp
  | x :: xs, acc => by rw [List.foldl_cons, foldl_app f xs, List.flatMap_cons, List.append_assoc]
@[simp] theorem listD_l (xs : List D) : listD (.lst xs) = .ok (.lst xs) := (rfl)
@[simp] theorem listD_t (xs : List D) : listD (.tup xs) = .ok (.lst xs) := (rfl)
@[simp] theorem listD_eR (r : List (Int × Int)) : listD (eR r) = .ok (.lst (r.map eP)) := (rfl)
theorem intsOf_map : ∀ ns : List Int, intsOf (ns.map .int) = some ns
  | [] => rfl
  | n :: ns => by
    rw [List.map_cons]
    unfold intsOf
    rw [intsOf_map ns]
    rfl
@[simp] theorem sumD_map {α : Type} (f : α → Int) (xs : List α) : sumD (.lst (xs.map fun x => D.int (f x))) = .ok (.int (xs.map f).sum) := by
  have : (xs.map fun x => D.int (f x)) = (xs.map f).map .int := by rw [List.map_map]; rfl
  rw [this]
  show (match intsOf ((xs.map f).map .int) with | some ns => Res.ok (D.int ns.sum) | none => .no) = _
  rw [intsOf_map]
@[simp] theorem isN_non : isN false .non .non = .ok (.bl true) := (rfl)
@[simp] theorem isN_int (i : Int) : isN false (.int i) .non = .ok (.bl false) := (rfl)
@[simp] theorem isN_non' : isN true .non .non = .ok (.bl false) := (rfl)
@[simp] theorem isN_int' (i : Int) : isN true (.int i) .non = .ok (.bl true) := (rfl)
@[simp] theorem isN_lst' (xs : List D) : isN true (.lst xs) .non = .ok (.bl true) := (rfl)
@[simp] theorem isN_tup' (xs : List D) : isN true (.tup xs) .non = .ok (.bl true) := (rfl)
@[simp] theorem isN_str' (s : Str) : isN true (.str s) .non = .ok (.bl true) := (rfl)
@[simp] theorem isN_lst (xs : List D) : isN false (.lst xs) .non = .ok (.bl false) := (rfl)
@[simp] theorem isN_tup (xs : List D) : isN false (.tup xs) .non = .ok (.bl false) := (rfl)
@[simp] theorem isN_str (s : Str) : isN false (.str s) .non = .ok (.bl false) := (rfl)
@[simp] theorem eqD_bl (neg a b : Bool) : eqD neg (.bl a) (.bl b) = .ok (.bl (if neg = true then !(a == b) else a == b)) := by
  unfold eqD
  simp only [py]
  rw [if_pos ⟨by rfl, by rfl⟩]
  congr 2
@[simp] theorem isi_bool_b (b : Bool) : isiG "bool" (.bl b) = .ok (.bl true) := (rfl)
@[simp] theorem isi_int_b (b : Bool) : isiG "int" (.bl b) = .ok (.bl true) := (rfl)
@[simp] theorem isi_list_l (xs : List D) : isiG "list" (.lst xs) = .ok (.bl true) := (rfl)
@[simp] theorem isi_list_t (xs : List D) : isiG "list" (.tup xs) = .ok (.bl false) := (rfl)
@[simp] theorem isi_str_s (s : Str) : isiG "str" (.str s) = .ok (.bl true) := (rfl)
@[simp] theorem addD_eR (r s : List (Int × Int)) : addD (eR r) (eR s) = if r.length + s.length ≤ sizeLine then .ok (eR (r ++ s)) else .no := by simp [eR]
theorem ixD_eR (r : List (Int × Int)) {k : Nat} (h : k < r.length) : ixD (eR r) (.int (k : Int)) = .ok (eP r[k]) := by simp [eR, atI_nat', h]
theorem kLs3_if (i : Nat) (ρ : Ev0) {c : Prop} [Decidable c] (ys : List D) (h : c) : kLs3 i ρ (if c then some ys else none) = .nx (ρ.set i (some (.lst ys))) := by rw [if_pos h]; rfl
theorem foldl_unit {α : Type} (xs : List α) : xs.foldl (fun (_ : Unit) _ => ()) () = () := rfl
@[simp] theorem kLst_n {ds : List D} (h : ds.length ≤ 100) : kLst ds = .ok (.lst ds) := kLst_ok (by rw [sizeL]; omega)
@[simp] theorem kTup_n {ds : List D} (h : ds.length ≤ 100) : kTup ds = .ok (.tup ds) := kTup_ok (by rw [sizeL]; omega)
theorem atI_last {α : Type} {xs : List α} (h : xs ≠ []) : atI xs (-1) = some (xs.getLast h) := by
  have := atI_end (xs.getLast h) xs.dropLast
  rwa [List.dropLast_concat_getLast] at this
/-- no item of the loop ends it -/
theorem forO_pass {α : Type} {b : D → Ev0 → Res Ev0} {body : Ev0 → Out} (enc : α → D) (R : Ev0 → Prop) (xs : List α) (ρ : Ev0)
    (h : ∀ x ∈ xs, ∀ ρ, R ρ → ∃ ρ1 ρ2, b (enc x) ρ = .ok ρ1 ∧ (body ρ1 = .nx ρ2 ∨ body ρ1 = .ct ρ2) ∧ R ρ2) (r : R ρ) : ∃ ρ', forO b body (xs.map enc) ρ = .nx ρ' ∧ R ρ' :=
  forO_inv enc (fun (_ : Unit) => R) (fun _ _ => ()) xs () ρ (fun x hx _ ρ r => h x hx ρ r) r
@[simp] theorem eP_len (p : Int × Int) : lenD (eP p) = .ok (.int 2) := (rfl)
def cutX {α : Type} (xs : List α) (lo hi : Option Int) : List α := (xs.drop (HT.sIx xs.length 0 lo)).take (HT.sIx xs.length xs.length hi - HT.sIx xs.length 0 lo)
@[simp] theorem cutD_x {α : Type} (f : α → D) (xs : List α) (lo hi : Option Int) : cutD (xs.map f) lo hi = (cutX xs lo hi).map f := by
  unfold cutD cutX
  rw [List.length_map, List.map_take, List.map_drop]
theorem cutX_len {α : Type} (xs : List α) (lo hi : Option Int) : (cutX xs lo hi).length ≤ xs.length := by
  unfold cutX
  rw [List.length_take, List.length_drop]
  omega
theorem cutX_mem {α : Type} {xs : List α} {lo hi : Option Int} {x : α} (h : x ∈ cutX xs lo hi) : x ∈ xs := List.mem_of_mem_drop (List.mem_of_mem_take h)
end FL
namespace FL
open PySem PySem.Spec PyProof.Rows L2
/-! list(reversed(a list)) -/
section
variable {prog : Program} {w : World} {A : Around} {E : Value → Shared → Prop} {s : Shared}
theorem rev_extend {R : Result → Shared → Prop} {it l S : Addr} {items : Array Value} {c₀ : Nat} {res : Value} (hh : A.handled = none) (hit1 : s.heap.IsRevIter it l ((items.size : Int) - 1)) (hl1 : s.heap.IsList l items) (hne : l ≠ it) (hSi : S ≠ it) (hSl : S ≠ l) (hn : items.size ≤ sizeLine)
    (hS₁ : s.heap.get? S = some { cls := .type "list", data := .seq #[] c₀ })
    (hR : ∀ h' tk acc c', (∀ b o, b ≠ S → b ≠ it → s.heap.get? b = some o → h'.get? b = some o) → h'.get? S = some { cls := .type "list", dict := none, data := .seq acc c', slots := #[] } → ItemsOf (fun i v => items[items.size - 1 - i]? = some v) acc items.size → R (.ok (.ret res)) { s with heap := h', toks := tk }) :
    wpAny (model prog w) A.in1 (Builtin.List.listExtendWith (.ref S) (.ref it) res)
      (fun fin s' => match fin with | .done f => R (.ok f) s' | .again c' => c'.quiet = true ∧ codeAny (model prog w) A c' R s') (fun e s' => R (.error e) s') s := by
  have W := (Walks.listRev (prog := prog) (w := w) (A := A.in1) hh it l hne items).toS
  have hSf : S ∉ [it, l] := by simp only [List.mem_cons, List.not_mem_nil, or_false, not_or]; exact ⟨hSi, hSl⟩
  have tyI : s.TypeIs (.ref it) "list_reverseiterator" := hit1.typeIs
  have same0 : Builtin.List.listSameRef (.ref S) (.ref it) = false := by simp [Builtin.List.listSameRef, hSi]
  unfold Builtin.List.listExtendWith
  refine wpAny_bind (wpAny_typeOf tyI ?_)
  rw [if_neg (by rw [same0]; decide)]
  refine wpAny_bind (wpAny_pyIter_revIter hit1 ?_)
  refine wpAny_bind (wpAny_holding ?_)
  unfold Builtin.List.listLengthHint
  refine wpAny_bind (wpAny_specialOf tyI RT.nolen_lri ?_)
  show wpAny _ A.in1 (specialOf (Value.ref it) (Str.ofString "__length_hint__") >>= _) _ _ _
  refine wpAny_bind (wpAny_specialOf tyI RT.hint_lri ?_)
  generalize hq : ("list_reverseiterator.__length_hint__" : String) = q0
  wp_delta
  rw [show splitId q0 = some ("list_reverseiterator", "__length_hint__") from by subst hq; decide +kernel]
  subst hq
  refine wpAny_bind (wpAny_isInstance (b := true) tyI (by rw [isSubtype_type]; kernel_rfl) ?_)
  refine wpAny_pure ?_
  rw [if_neg (by decide)]
  have n0 : ((items.size : Nat) : Int) - 1 - ((0 : Nat) : Int) = (items.size : Int) - 1 := by omega
  refine wpAny_pure ⟨plainId_quiet F.plain_extend_loop _, codeAny_extend_loopS W hn _ hSf _ items.size 0 _ _ _ rfl (Nat.zero_le _) ⟨Nat.zero_le _, by rw [n0]; exact hit1, hl1⟩ hS₁ (ItemsOf.nil _) fun s' acc' c' hm hS' hacc => ?_⟩
  rw [Moved.eq_with hm]
  refine hR s'.heap s'.toks acc' c' (fun b o hb1 hb2 e => hm.heap b o (fun hmem => ?_) e) hS' hacc
  rcases List.mem_cons.mp hmem with e' | hmem
  · exact hb1 e'
  · exact hb2 (List.mem_singleton.mp hmem)
theorem rev_list {it l : Addr} {items : Array Value} {Q : Value → Shared → Prop} (hh : A.handled = none) (hit : s.heap.IsRevIter it l ((items.size : Int) - 1)) (hl : s.heap.IsList l items) (hne : l ≠ it) (hn : items.size ≤ sizeLine)
    (hQ : ∀ (h' : Heap) (tk : Nat) (acc : Array Value) (c' : Nat), (∀ b o, b ≠ it → s.heap.get? b = some o → h'.get? b = some o) → h'.get? s.heap.objs.size = some { cls := .type "list", dict := none, data := .seq acc c', slots := #[] } →
      ItemsOf (fun i v => items[items.size - 1 - i]? = some v) acc items.size → Q (.ref s.heap.objs.size) { s with heap := h', toks := tk }) :
    wpAny (model prog w) A (call (.type "list") [.ref it]) Q E s := by
  refine callType_codes (Q₁ := fun obj s₁ => obj = .ref s.heap.objs.size ∧ s₁ = { s with heap := s.heap.push { cls := .type "list", data := .seq #[] } }) PySem.F.called_list (PySem.F.typeCall_list_1 _) PySem.F.entry_list_init
    (code_list_new _ ⟨rfl, rfl⟩) fun obj s₁ h₁ => ?_
  obtain ⟨rfl, rfl⟩ := h₁
  obtain ⟨oi, hoi, _⟩ := id hit
  obtain ⟨ol, hol, _⟩ := id hl
  have hSi : s.heap.objs.size ≠ it := Nat.ne_of_gt (Heap.lt_size hoi)
  have hSl : s.heap.objs.size ≠ l := Nat.ne_of_gt (Heap.lt_size hol)
  have hS : (s.heap.push { cls := .type "list", data := .seq #[] }).get? s.heap.objs.size = some { cls := .type "list", data := .seq #[] } := Heap.get?_push_size _ rfl
  have hitp : (s.heap.push { cls := .type "list", data := .seq #[] }).IsRevIter it l ((items.size : Int) - 1) := hit.at fun o e => Heap.get?_push_of_some _ e
  have hlp : (s.heap.push { cls := .type "list", data := .seq #[] }).IsList l items := hl.push _
  refine ⟨⟨_, hS, rfl⟩, PySem.F.args_list_init_2 _ _, ?_⟩
  show wpAny _ _ (do let old ← Builtin.List.listItems (.ref s.heap.objs.size); Builtin.List.listUpdate (.ref s.heap.objs.size) (fun _ => #[]); letGo old.toList.reverse; Builtin.List.listExtendWith (.ref s.heap.objs.size) (.ref it) .none) _ _ _
  refine wpAny_bind ?_
  unfold Builtin.List.listItems
  refine wpAny_bind (wpAny_seqItems hS rfl (wpAny_pure ?_))
  show wpAny _ _ (updateSeq s.heap.objs.size (fun _ => #[]) >>= fun _ => letGo (#[] : Array Value).toList.reverse >>= fun _ => Builtin.List.listExtendWith (.ref s.heap.objs.size) (.ref it) .none) _ _ _
  refine wpAny_bind (wpAny_updateSeq hS rfl ?_)
  have hS₂ := Heap.get?_update_self (Obj.mapSeq (fun _ => (#[] : Array Value))) hS rfl
  have oth : ∀ b o, b ≠ s.heap.objs.size → (s.heap.push { cls := .type "list", data := .seq #[] }).get? b = some o → ((s.heap.push { cls := .type "list", data := .seq #[] }).update s.heap.objs.size (Obj.mapSeq (fun _ => (#[] : Array Value)))).get? b = some o :=
    fun b o hb e => (Heap.get?_update_other _ _ (Ne.symm hb)).trans e
  refine wpAny_bind (wpAny_letGo ?_)
  refine rev_extend (A := A.in1) (res := .none) hh (hitp.at fun o e => oth it o (Ne.symm hSi) e) ?_ hne hSi hSl hn hS₂ fun h' tk acc c' hk hS' hacc => ?_
  · obtain ⟨o, ho, r⟩ := hlp
    exact ⟨o, oth l o (Ne.symm hSl) ho, r⟩
  · exact ⟨rfl, hQ h' tk acc c' (fun b o hb e => hk b o (Nat.ne_of_lt (Heap.lt_size e)) hb (oth b o (Nat.ne_of_lt (Heap.lt_size e)) (Heap.get?_push_of_some _ e))) hS' hacc⟩
end
/-- a new list of the items the other way round -/
def tListRev (K : PySem.W.Frag) (te : TE) : TE := fun σ H Q => te σ H fun v H1 => ∃ (a : Addr) (xs : List V), v = .ref a ∧ SqL K H1 a xs ∧ ∀ q, H1 q = none → Q (.ref q) (upd H1 q (.lst xs.reverse))
theorem pe_listRev {X : Cx} {e : Expr} {te : TE} {p p2 pos pos2 : Pos} (hc : X.calm = true) (hg : Gl X "list") (hm : X.mg "list" = none) (hg2 : Gl X "reversed") (hm2 : X.mg "reversed" = none) (he : PE X e te)
    (hs : starEach [e] X.env = (false, eval e X.env) :: starEach [] X.env)
    (hs2 : starEach [.Call (.Name "reversed" p2) [e] [] pos2] X.env = (false, eval (.Call (.Name "reversed" p2) [e] [] pos2) X.env) :: starEach [] X.env) :
    PE X (.Call (.Name "list" p) [.Call (.Name "reversed" p2) [e] [] pos2] [] pos) (tListRev X.K te) := by
  refine ⟨fun pins s σ H Q I h => ?_⟩
  refine Call_ (ld_blt I hg hm (u := .type "list") (by decide +kernel) (PyProof.Rows.callWith_type1 (args_cons (Call_ (ld_blt I hg2 hm2 PyProof.Rows.boot_reversed (PyProof.Rows.callWith_type1 (args_cons (thn (he.run pins s σ H _ I h) fun u s1 ⟨v, H1, I1, r1, q1⟩ => args_nil ?_) hs) hs rfl))) hs2) hs2 rfl))
  obtain ⟨a, xs, ev, hq, q⟩ := q1
  subst ev
  obtain rfl : u = Value.ref a := r1
  obtain ⟨its, rv, p', hz⟩ := I1.list hq
  refine call_reversed_list p'.isList (args_nil ?_)
  have hl := p'.isList
  obtain ⟨ol, hol, _⟩ := id hl
  have ha : a ≠ s1.heap.objs.size := Nat.ne_of_lt (Heap.lt_size hol)
  have hn : its.toArray.size ≤ sizeLine := by rw [List.size_toArray, ← rv.length]; exact hz
  have sz : (s1.heap.push (revObj a ((its.toArray.size : Int) - 1))).objs.size = s1.heap.objs.size + 1 := Heap.size_push _ _
  refine rev_list (s := { s1 with heap := s1.heap.push (revObj a ((its.toArray.size : Int) - 1)) }) (I1.ok.hd hc) ⟨_, Heap.get?_push_size _ rfl, rfl, rfl⟩ (hl.push _) ha hn fun h' tk acc c' hk hS hi => ?_
  refine ⟨.ref (s1.heap.objs.size + 1), upd H1 (s1.heap.objs.size + 1) (.lst xs.reverse), ?_, by show Value.ref _ = _; rw [← sz], q _ (I1.hok.fresh (Nat.le_succ _))⟩
  refine I1.laid (t' := tk) (fun b o e => hk b o (Nat.ne_of_lt (Heap.lt_size e)) (Heap.get?_push_of_some _ e)) (Nat.le_succ _) (show ObjOk X.prog X.w _ h' _ (.lst xs.reverse) from ⟨by rw [List.length_reverse]; exact hz, acc.toList, c', RT.vals_rev rv hi, ?_⟩)
  rw [Array.toArray_toList, ← sz]
  exact hS
variable {Γ : Gx}
def revD : D → Res D
  | .lst xs => .ok (.lst xs.reverse)
  | _ => .no
theorem fe_listRev {ι : Type} {X : ι → Cx} {W : WX} {M : List Nat} {e : Expr} {k : Kd} {p p2 pos pos2 : Pos} {ga : Ev0 → Res D} (A : Amb Γ X) (C : C1x X "list" (.Call (.Name "reversed" p2) [e] [] pos2) pos) (C2 : C1x X "reversed" e pos2) (h : FE Γ X W M e k ga) (hk : k ≠ .ob := by intro z; cases z) :
    FE Γ X W M (.Call (.Name "list" p) [.Call (.Name "reversed" p2) [e] [] pos2] [] pos) .ow (g1 ga revD) := by
  obtain ⟨t, pe, ev⟩ := (h.ov hk).ex
  refine ⟨tListRev Γ.K t, fun i => ?_, fun F0 H0 F H σ ρ Q E hp => ?_⟩
  · have := pe_listRev (p := p) (pos := pos) (A.calm i) (C.g i) (C.m i) (C2.g i) (C2.m i) (pe i) (C2.he i) (C.he i)
    rw [A.K i] at this
    exact this
  · show t σ H _
    refine EvG.bind ev RE.mono E hp fun d F1 H1 x e1 E1 r1 hp1 => ?_
    unfold revD at hp1
    split at hp1
    · rename_i xs
      obtain ⟨a, vs, rfl, ha, ra⟩ := Rep1.lst E1.same (OwnR.rel r1)
      refine ⟨a, vs, rfl, .inl ha, fun q hq => ?_⟩
      exact hp1 _ _ _ (Ext.own E1.same hq) ⟨q, _, rfl, hq, E1.same.free hq, upd_same, .lst ra.reverse⟩
    · exact hp1.elim
@[simp] theorem revD_e (xs : List D) : revD (.lst xs) = .ok (.lst xs.reverse) := (rfl)
theorem dat_lP (n : Nat) (r : List (Int × Int)) : Dat (n + 2) (.lst (r.map eP)) := by
  intro x hx
  obtain ⟨p, _, rfl⟩ := List.mem_map.mp hx
  exact dat_eP n p
@[simp] theorem eqD_lP_same (neg : Bool) (r : List (Int × Int)) : eqD neg (.lst (r.map eP)) (.lst (r.map eP)) = .ok (.bl (!neg)) := eqD_same neg (by decide : 2 ≤ 64) (dat_lP 0 r)
end FL
namespace FL
open PySem PySem.Spec PyProof.Rows L2
variable {Γ : Gx}
section
variable {ι : Type} {X : ι → Cx} {W : WX} {M M' is js : List Nat} {m : Mds} {e a c : Expr} {k kr ka : Kd} {pos p : Pos} {ga ge : Ev0 → Res D} {gc : Ev0 → Res Bool} {sts : List Stmt} {st : Stmt} {g : Ev0 → Out}
/-! ### an own list lent for a while: what is told of it keeps nothing of it -/
theorem ft_borrow (i : Nat) (M' : List Nat) (hm : M.filter (· != i) = M') (h : FT Γ X W M' e gc) : FT Γ X W M e gc := by
  subst hm
  obtain ⟨t, pt, ev⟩ := h.ex
  refine ⟨t, pt, fun F0 H0 F H σ ρ Q E hp => ?_⟩
  obtain ⟨F', sF, E'⟩ := E.freeze i
  refine ev F0 H0 F' H σ ρ Q E' ?_
  cases z : gc ρ with
  | ok b =>
    rw [z] at hp
    intro F1 H1 b' e1 r1
    exact hp F H1 b' ⟨Same.refl F, e1.h, E.same.trans e1.h, fun a o w => .inl ⟨o, w⟩⟩ r1
  | ex x =>
    rw [z] at hp
    intro F1 H1 C e1 hC
    exact hp F H1 C ⟨Same.refl F, e1.h, E.same.trans e1.h, fun a o w => .inl ⟨o, w⟩⟩ hC
  | no => rw [z] at hp; exact hp.elim
def scal : D → Bool
  | .non => true
  | .bl _ => true
  | .int _ => true
  | .str _ => true
  | _ => false
theorem Rep.scal {F F' : Hp} {v : V} {d : D} (h : Rep Γ F v d) (hs : scal d = true) : Rep Γ F' v d := by
  cases h with
  | non => exact .non
  | bl b => exact .bl b
  | int i => exact .int i
  | str s => exact .str s
  | _ => cases hs
def lendD (d : D) : Res D := if scal d = true then .ok d else .no
theorem fe_borrow (i : Nat) (M' : List Nat) (hm : M.filter (· != i) = M') (h : FE Γ X W M' e .sh ga) : FE Γ X W M e .sh (g1 ga lendD) := by
  subst hm
  obtain ⟨t, pt, ev⟩ := h.ex
  refine ⟨t, pt, fun F0 H0 F H σ ρ Q E hp => ?_⟩
  obtain ⟨F', sF, E'⟩ := E.freeze i
  refine ev F0 H0 F' H σ ρ Q E' ?_
  unfold g1 at hp
  cases z : ga ρ with
  | ok d =>
    rw [z] at hp
    have hp : PostG Γ W F H σ (RE Γ .sh) (lendD d) Q := hp
    unfold lendD at hp
    by_cases hs : FL.scal d = true
    · rw [if_pos hs] at hp
      intro F1 H1 v e1 r1
      have r1 : Rep Γ F1 v d := r1
      exact hp F H1 v ⟨Same.refl F, e1.h, E.same.trans e1.h, fun a o w => .inl ⟨o, w⟩⟩ (r1.scal hs)
    · rw [if_neg hs] at hp
      exact hp.elim
  | ex x =>
    rw [z] at hp
    intro F1 H1 C e1 hC
    exact hp F H1 C ⟨Same.refl F, e1.h, E.same.trans e1.h, fun a o w => .inl ⟨o, w⟩⟩ hC
  | no => rw [z] at hp; exact hp.elim
/-! ### methods without arguments of an own list, as statements -/
structure MT0 {ι : Type} (X : ι → Cx) (x : Str) (p1 apos cpos pos : Pos) (nm : Str) : Prop where
  hbase : ∀ j, attributeBase (.Name x p1) nm (X j).env (eval (.Name x p1) (X j).env) = eval (.Name x p1) (X j).env
  hs : ∀ j, swapsWith (.Call (.Attribute (.Name x p1) nm apos) [] [] cpos) none pos.line (X j).env = pure false
def oLst0 (i : Nat) (f : List D → Option (List D)) : Ev0 → Out := fun ρ => match ρ[i]? with
  | some (some (.lst xs)) => match f xs with
    | some ys => .nx (ρ.set i (some (.lst ys)))
    | none => .no
  | _ => .no
theorem ev_oLst0 {F0 H0 F H : Hp} {σ : L2.St} {ρ : Ev0} {i : Nat} {f : List D → Option (List D)} {D : Ends} (E : EO Γ F0 H0 F H m.nx σ ρ) (hm : m.nx.contains i = true) (hp : PostS Γ W F F0 H0 D m kr (oLst0 i f ρ)) :
    ∃ p vs ds ys, σ[i]? = some (some (.ref p)) ∧ H p = some (.lst vs) ∧ RepL Γ F vs ds ∧ f ds = some ys ∧ (∀ ws, RepL Γ F ws ys → D.nx σ (upd H p (.lst ws))) := by
  unfold oLst0 at hp
  split at hp
  · rename_i ds hd
    obtain ⟨p, o, hv, h0, hf, ho, hh⟩ := E.own hm hd
    cases hh with
    | lst r =>
      split at hp
      · rename_i ys hy
        exact ⟨p, _, ds, ys, hv, ho, r, hy, fun ws rw' => hp F _ σ (Same.refl F) (E.upd hm hd hv h0 hf (.lst rw'))⟩
      · exact hp.elim
  · exact hp.elim
def fRev (xs : List D) : Option (List D) := some xs.reverse
theorem fs_reverse (A : Amb Γ X) (i : Nat) {x : Str} {p1 apos cpos : Pos} {M bk ct : List Nat} (hN : ∀ j, (X j).N[i]? = some x) (hv : ∀ j, Vis (X j).env.scope x) (hm : M.contains i = true) (T : MT0 X x p1 apos cpos pos "reverse") (hline : (apos.endLine == cpos.line) = true)
    (hd : (x == ("__debug__" : Str)) = false := by decide) (hcd : (x == ("__classdict__" : Str)) = false := by decide) :
    FS Γ X W M ⟨M, bk, ct⟩ kr (.Expr (.Call (.Attribute (.Name x p1) "reverse" apos) [] [] cpos) pos) (oLst0 i fRev) := by
  refine ⟨fun D σ H => tVar i σ H fun x H1 => tyV Γ.K "list" x H1 ∧ rReverse x [] H1 fun _ H3 => D.nx σ H3, fun j => ?_, fun F0 H0 F H σ ρ D E hp => ?_⟩
  · have := ps_expr (pos := pos) (pe_bm0 PySem.F.plainAttrs_list PySem.F.slot_list_reverse PySem.F.type_list_reverse mt_reverse (pe_var (hN j) (hv j) hd hcd) (T.hbase j) hline) (T.hs j)
    rw [A.K j] at this
    exact this
  · obtain ⟨p, vs, ds, ys, h1, h2, r, hy, fin⟩ := ev_oLst0 (m := ⟨M, bk, ct⟩) E hm hp
    cases hy
    exact ⟨_, h1, .inl ⟨rfl, _, SqL.of h2⟩, p, vs, rfl, rfl, h2, fin _ r.reverse⟩
/-! ### for over an own list, the body one test that may return -/
theorem fs_forT (A : Amb Γ X) (i0 : Nat) {x : Str} {p1 pr pi : Pos} {tg : Expr} {b : D → Ev0 → Res Ev0} {M bk ct : List Nat} (hpo : ∀ i, PassesOwn (model (X i).prog (X i).w) (X i).A (X i).env (X i).xe)
    (hN : ∀ j, (X j).N[i0]? = some x) (hv : ∀ j, Vis (X j).env.scope x) (hm : M.contains i0 = true) (hni : is.contains i0 = false) (hg : FG Γ X M is tg b) (hc : FT Γ X W M c gc) (he : FE Γ X W M e kr ge)
    (hs : ∀ i x', foldedSetIterable (.Name x p1) (X i).env x' = pure x') (hd : (x == ("__debug__" : Str)) = false := by decide) (hcd : (x == ("__classdict__" : Str)) = false := by decide) :
    FS Γ X W M ⟨M, bk, ct⟩ kr (.For tg (.Name x p1) [.If c [.Return (some e) pr] [] pi] [] pos) (oFor (gSeq (gVar i0)) b (oIf gc (oRet ge) oNil)) := by
  obtain ⟨g, pg, eg⟩ := hg.ex
  obtain ⟨tc, pc, ec⟩ := hc.ex
  obtain ⟨te, pe, ee⟩ := he.ex
  have pit : ∀ j, PI (X j) tg (.Name x p1) (iSeq Γ.K (tVar i0)) := fun j => by
    have := pi_seq (tg := tg) (pe_var (pos := p1) (hN j) (hv j) hd hcd)
    rw [A.K j] at this
    exact this
  refine ⟨_, fun i => ps_for (hpo i) (A.calm i) (pit i) (pg i) (pss_one (ps_if (pc i) (pss_one (ps_ret (pe i))) pss_nil)) (hs i), fun F0 H0 F H σ ρ D E hp => ?_⟩
  unfold oFor gSeq gVar at hp
  cases h0 : ρ[i0]? with
  | none => rw [h0] at hp; exact hp.elim
  | some o0 =>
    cases o0 with
    | none => rw [h0] at hp; exact hp.elim
    | some d0 =>
      rw [h0] at hp
      obtain ⟨q, o, hv0, hh0, hf0, ho, hh⟩ := E.own hm h0
      cases hh with
      | @lst vs ds r =>
        have hp : PostS Γ W F F0 H0 D ⟨M, bk, ct⟩ kr (forO b (oIf gc (oRet ge) oNil) ds ρ) := hp
        generalize hout : forO b (oIf gc (oRet ge) oNil) ds ρ = out at hp
        refine ⟨_, hv0, q, rfl, .inl ⟨⟨vs, SqL.of ho⟩, ?_⟩⟩
        refine ⟨fun i n σ' H' => n = ds.length - i ∧ i ≤ ds.length ∧ Same H H' ∧ ∃ ρ', EO Γ F0 H0 F H' M σ' ρ' ∧ forO b (oIf gc (oRet ge) oNil) (ds.drop i) ρ' = out, ⟨ds.length, by simp, Nat.zero_le _, Same.refl _, ρ, E, hout⟩, ?_⟩
        rintro i n σ' H' ⟨rfl, hil, sH, ρ', E', hf⟩
        have hq : H' q = some (.lst vs) := sH _ _ ho
        by_cases hlt : i < ds.length
        · refine .inr ?_
          have hdi : ds[i]? = some ds[i] := List.getElem?_eq_getElem hlt
          obtain ⟨v, hvi, rv⟩ := r.get hdi
          refine ⟨⟨vs, v, SqL.of hq, hvi⟩, fun σ2 H2 => i + 1 ≤ ds.length ∧ Same H H2 ∧ ∃ ρ2, EO Γ F0 H0 F H2 M σ2 ρ2 ∧ forO b (oIf gc (oRet ge) oNil) (ds.drop (i + 1)) ρ2 = out, fun σ2 H2 ⟨h1, h2, h3⟩ => ⟨ds.length - (i + 1), by omega, rfl, h1, h2, h3⟩, fun y H2 hy => ?_⟩
          obtain ⟨eH, hy⟩ := hy
          subst eH
          have ey := hy vs (SqL.of hq)
          rw [hvi] at ey
          cases ey
          rw [List.drop_eq_getElem_cons hlt] at hf
          unfold forO at hf
          cases hb : b (ds[i]) ρ' with
          | ex z => rw [hb] at hf; subst hf; exact hp.elim
          | no => rw [hb] at hf; subst hf; exact hp.elim
          | ok ρ1 =>
            rw [hb] at hf
            refine eg F0 H0 F H2 σ' ρ' _ _ ρ1 _ E' rv hb fun σ3 E3 _ => ?_
            dsimp only at hf
            show tc σ3 H2 _
            refine ec F0 H0 F H2 σ3 ρ1 _ E3 ?_
            unfold oIf at hf
            cases hcv : gc ρ1 with
            | no => rw [hcv] at hf; subst hf; exact hp.elim
            | ex z =>
              rw [hcv] at hf
              subst hf
              intro F4 H4 C e4 hC
              exact hp F4 H4 σ3 C (E3.ext.trans e4) hC
            | ok cv =>
              rw [hcv] at hf
              intro F4 H4 bv e4 rb
              have rb : bv = cv := rb
              subst rb
              have E4 : EO Γ F0 H0 F4 H4 M σ3 ρ1 := E3.extend e4
              have E5 : EO Γ F0 H0 F H4 M σ3 ρ1 := E3.extend ⟨Same.refl F, e4.h, E3.same.trans e4.h, fun a o w => .inl ⟨o, w⟩⟩
              cases bv with
              | true =>
                show te σ3 H4 _
                have hf : (match oRet ge ρ1 with
                  | .nx ρ2 => forO b (oIf gc (oRet ge) oNil) (ds.drop (i + 1)) ρ2
                  | .ct ρ2 => forO b (oIf gc (oRet ge) oNil) (ds.drop (i + 1)) ρ2
                  | .bk ρ2 => .nx ρ2
                  | o => o) = out := hf
                refine ee F0 H0 F4 H4 σ3 ρ1 _ E4 ?_
                unfold oRet at hf
                cases hge : ge ρ1 with
                | no => rw [hge] at hf; subst hf; exact hp.elim
                | ex z =>
                  rw [hge] at hf
                  subst hf
                  intro F5 H5 C e5 hC
                  exact hp F5 H5 σ3 C (E4.ext.trans e5) hC
                | ok d =>
                  rw [hge] at hf
                  subst hf
                  intro F5 H5 w e5 rw'
                  exact hp F5 H5 w (E4.ext.trans e5) (RE.mono _ _ _ _ _ _ E4.ext.h rw')
              | false =>
                have hf : forO b (oIf gc (oRet ge) oNil) (ds.drop (i + 1)) ρ1 = out := hf
                exact ⟨hlt, sH.trans e4.h, ρ1, E5, hf⟩
        · refine .inl ⟨⟨vs, SqL.of hq, by rw [r.length]; omega⟩, ?_⟩
          have : ds.drop i = [] := List.drop_eq_nil_of_le (by omega)
          rw [this] at hf
          unfold forO at hf
          subst hf
          exact hp F H' σ' (Same.refl F) E'
      | _ => exact hp.elim
end
@[simp] theorem lendD_bl (b : Bool) : lendD (.bl b) = .ok (.bl b) := (rfl)
@[simp] theorem lendD_int (b : Int) : lendD (.int b) = .ok (.int b) := (rfl)
@[simp] theorem lendD_str (b : Str) : lendD (.str b) = .ok (.str b) := (rfl)
@[simp] theorem fRev_e (xs : List D) : fRev xs = some xs.reverse := (rfl)
@[simp] theorem oLst0_e (i : Nat) (f : List D → Option (List D)) (xs : List D) (ρ : Ev0) (h : ρ[i]? = some (some (.lst xs))) : oLst0 i f ρ = kLs3 i ρ (f xs) := by
  unfold oLst0
  rw [h]
  dsimp only
  cases f xs <;> rfl
end FL
namespace FL
open PySem PySem.Spec PyProof.Rows L2
variable {Γ : Gx}
/-! ### a dict of lists, filled by d.setdefault(k, []).append(v) in a loop -/
/-- the lists within: each its own -/
inductive Subs (Γ : Gx) (H0 F H : Hp) (n : Nat) : List (Key × V) → List (Key × D) → List Addr → Prop
  | nil : Subs Γ H0 F H n [] [] []
  | cons {k : Key} {q : Addr} {xs : List V} {es : List D} {kvs : List (Key × V)} {ds : List (Key × D)} {qs : List Addr} : H0 q = none → F q = none → H q = some (.lst xs) → RepL Γ F xs es → xs.length ≤ n → Subs Γ H0 F H n kvs ds qs → Subs Γ H0 F H n ((k, .ref q) :: kvs) ((k, .lst es) :: ds) (q :: qs)
theorem ne_mem {a q : Addr} {qs : List Addr} (h : a ∉ q :: qs) : q ≠ a := fun z => h (by rw [z]; exact List.mem_cons_self)
theorem nokey {v : V} {q : Addr} {ks : List Key} (z : HO.tup [v, .ref q] = .tup (ks.map kV)) : False := by
  injection z with z
  cases ks with
  | nil => cases z
  | cons a ks =>
    cases ks with
    | nil => cases z
    | cons b ks =>
      have h : V.ref q = kV b := (List.cons.inj (List.cons.inj z).2).1
      cases b <;> cases h
theorem Ext.free {F H F' H' : Hp} (e : Ext F H F' H') {p : Addr} {o : HO} (hf : F p = none) (hp : H p = some o) (ho : ∀ ks : List Key, o ≠ .tup (ks.map kV) := by first | (intro ks z; cases z; done) | (intro ks z; exact (nokey z).elim)) : F' p = none := by
  cases z : F' p with
  | none => rfl
  | some u =>
    rcases e.n _ _ z with ⟨w, y⟩ | y | ⟨xs, y⟩
    · rw [hf] at y; cases y
    · rw [hp] at y; cases y
    · rw [hp] at y; cases y; exact absurd rfl (ho _)
theorem Subs.ext {H0 F H F' H' : Hp} {n : Nat} (e : Ext F H F' H') : ∀ {kvs : List (Key × V)} {ds : List (Key × D)} {qs : List Addr}, Subs Γ H0 F H n kvs ds qs → Subs Γ H0 F' H' n kvs ds qs
  | _, _, _, .nil => .nil
  | _, _, _, .cons h1 h2 h3 r hl s => .cons h1 (e.free h2 h3) (e.h _ _ h3) (r.mono e.f) hl (Subs.ext e s)
theorem Subs.mono {H0 F H : Hp} {n m : Nat} (e : n ≤ m) : ∀ {kvs : List (Key × V)} {ds : List (Key × D)} {qs : List Addr}, Subs Γ H0 F H n kvs ds qs → Subs Γ H0 F H m kvs ds qs
  | _, _, _, .nil => .nil
  | _, _, _, .cons h1 h2 h3 r hl s => .cons h1 h2 h3 r (Nat.le_trans hl e) (Subs.mono e s)
theorem Subs.upd {H0 F H : Hp} {n : Nat} {a : Addr} {o : HO} : ∀ {kvs : List (Key × V)} {ds : List (Key × D)} {qs : List Addr}, a ∉ qs → Subs Γ H0 F H n kvs ds qs → Subs Γ H0 F (L2.upd H a o) n kvs ds qs
  | _, _, _, _, .nil => .nil
  | _, _, _, ha, .cons h1 h2 h3 r hl s => .cons h1 h2 (by rw [upd_ne (ne_mem ha)]; exact h3) r hl (Subs.upd (fun z => ha (List.mem_cons_of_mem _ z)) s)
theorem Subs.there {H0 F H : Hp} {n : Nat} : ∀ {kvs : List (Key × V)} {ds : List (Key × D)} {qs : List Addr}, Subs Γ H0 F H n kvs ds qs → ∀ q ∈ qs, ∃ xs, H q = some (.lst xs)
  | _, _, _, .cons h1 h2 h3 r hl s, q, hq => by
    rcases List.mem_cons.mp hq with rfl | hq
    · exact ⟨_, h3⟩
    · exact Subs.there s q hq
/-- the datum behind one step -/
def grp (k : Key) (v : D) : List (Key × D) → List (Key × D)
  | [] => [(k, .lst [v])]
  | (k', d) :: r => if k' = k then (k', match d with | .lst es => .lst (es ++ [v]) | d => d) :: r else (k', d) :: grp k v r
theorem Subs.hit {H0 F H : Hp} {n : Nat} {k : Key} {v : V} : ∀ {kvs : List (Key × V)} {ds : List (Key × D)} {qs : List Addr}, Subs Γ H0 F H n kvs ds qs → valV kvs k = some v →
    ∃ q xs, v = .ref q ∧ q ∈ qs ∧ H q = some (.lst xs) ∧ xs.length ≤ n ∧ H0 q = none ∧ F q = none
  | _, _, _, .nil, h => by rw [valV_nil] at h; cases h
  | _, _, _, .cons (k := k') h1 h2 h3 r hl s, h => by
    by_cases e : k' = k
    · rw [valV_pos (by exact e)] at h
      cases h
      exact ⟨_, _, rfl, List.mem_cons_self, h3, hl, h1, h2⟩
    · rw [valV_neg (by exact e)] at h
      obtain ⟨q, xs, h4, h5, h6⟩ := Subs.hit s h
      exact ⟨q, xs, h4, List.mem_cons_of_mem _ h5, h6⟩
theorem Subs.more {H0 F H : Hp} {n : Nat} {k : Key} {q : Addr} {xs : List V} {w : V} {d : D} (hx : H q = some (.lst xs)) (rw' : Rep Γ F w d) : ∀ {kvs : List (Key × V)} {ds : List (Key × D)} {qs : List Addr}, Subs Γ H0 F H n kvs ds qs → qs.Nodup → valV kvs k = some (.ref q) →
    Subs Γ H0 F (L2.upd H q (.lst (xs ++ [w]))) (n + 1) kvs (grp k d ds) qs
  | _, _, _, .nil, _, h => by rw [valV_nil] at h; cases h
  | _, _, _, .cons (k := k') (q := q') (es := es) h1 h2 h3 r hl s, nd, h => by
    have nd' := List.nodup_cons.mp nd
    unfold grp
    by_cases e : k' = k
    · rw [valV_pos (by exact e)] at h
      cases h
      rw [if_pos e]
      rw [h3] at hx
      cases hx
      exact .cons h1 h2 upd_same (r.append (.cons rw' .nil)) (by rw [List.length_append]; exact Nat.succ_le_succ hl) ((Subs.upd nd'.1 s).mono (Nat.le_succ n))
    · rw [valV_neg (by exact e)] at h
      rw [if_neg e]
      obtain ⟨q2, xs2, h4, h5, h6⟩ := Subs.hit s h
      cases h4
      have hne : q' ≠ q := fun z => nd'.1 (z ▸ h5)
      exact .cons h1 h2 (by rw [upd_ne hne]; exact h3) r (Nat.le_succ_of_le hl) (Subs.more hx rw' s nd'.2 h)
theorem Subs.fresh {H0 F H : Hp} {n : Nat} {k : Key} {z : Addr} {w : V} {d : D} (h0 : H0 z = none) (hf : F z = none) (rw' : Rep Γ F w d) : ∀ {kvs : List (Key × V)} {ds : List (Key × D)} {qs : List Addr}, Subs Γ H0 F H n kvs ds qs → z ∉ qs → valV kvs k = none →
    Subs Γ H0 F (L2.upd H z (.lst [w])) (n + 1) (kvs ++ [(k, .ref z)]) (grp k d ds) (qs ++ [z])
  | _, _, _, .nil, _, _ => .cons h0 hf upd_same (.cons rw' .nil) (by simp) .nil
  | _, _, _, .cons (k := k') (q := q') h1 h2 h3 r hl s, hz, h => by
    have e : ¬ k' = k := fun e => by rw [valV_pos (by exact e)] at h; cases h
    rw [valV_neg (by exact e)] at h
    unfold grp
    rw [if_neg e]
    exact .cons h1 h2 (by rw [upd_ne (ne_mem hz)]; exact h3) r (Nat.le_succ_of_le hl) (Subs.fresh h0 hf rw' s (fun y => hz (List.mem_cons_of_mem _ y)) h)
theorem Subs.freeze {F0 H0 H : Hp} {n : Nat} : ∀ {kvs : List (Key × V)} {ds : List (Key × D)} {qs : List Addr} {F : Hp}, Subs Γ H0 F H n kvs ds qs → qs.Nodup → Ext F0 H0 F H →
    ∃ F', Ext F0 H0 F' H ∧ Same F F' ∧ (∀ a, a ∉ qs → F' a = F a) ∧ kvs.map (·.1) = ds.map (·.1) ∧ RepL Γ F' (kvs.map (·.2)) (ds.map (·.2))
  | _, _, _, F, .nil, _, e => ⟨F, e, Same.refl F, fun _ _ => rfl, rfl, .nil⟩
  | _, _, _, F, .cons (q := q) (xs := xs) h1 h2 h3 r hl s, nd, e => by
    have nd' := List.nodup_cons.mp nd
    obtain ⟨F', e1, s1, o1, k1, r1⟩ := Subs.freeze s nd'.2 e
    have hq : F' q = none := by rw [o1 q nd'.1]; exact h2
    have sn : Same F' (L2.upd F' q (.lst xs)) := same_new hq
    refine ⟨L2.upd F' q (.lst xs), e1.freeze h1 hq h3, s1.trans sn, fun a ha => ?_, ?_, ?_⟩
    · rw [upd_ne (fun z => ne_mem ha z.symm), o1 a fun z => ha (List.mem_cons_of_mem _ z)]
    · rw [List.map_cons, List.map_cons, k1]
    · exact .cons (.lst upd_same (r.mono (s1.trans sn))) (r1.mono sn)
theorem Subs.len {H0 F H : Hp} {n : Nat} : ∀ {kvs : List (Key × V)} {ds : List (Key × D)} {qs : List Addr}, Subs Γ H0 F H n kvs ds qs → kvs.length = ds.length
  | _, _, _, .nil => rfl
  | _, _, _, .cons _ _ _ _ _ s => congrArg (· + 1) s.len
/-- a heap that changes at an object of no slot -/
theorem EO.upd0 {F0 H0 F H : Hp} {σ : L2.St} {ρ : Ev0} {p : Addr} {o : HO} (E : EO Γ F0 H0 F H [] σ ρ) (h0 : H0 p = none) (hf : F p = none) : EO Γ F0 H0 F (L2.upd H p o) [] σ ρ := by
  refine ⟨E.len, ⟨E.ext.f, fun a u q => ?_, fun a u q => ?_, E.ext.n⟩, E.slot, fun i j p d e _ h => by cases h⟩
  · rw [upd_ne (fun z => by rw [z, h0] at q; cases q)]
    exact E.ext.h _ _ q
  · rw [upd_ne (fun z => by rw [z, hf] at q; cases q)]
    exact E.ext.i _ _ q
theorem EO.drop {F0 H0 F H : Hp} {σ : L2.St} {ρ : Ev0} {i : Nat} (E : EO Γ F0 H0 F H [i] σ ρ) : EO Γ F0 H0 F H [] σ (ρ.set i none) := by
  refine ⟨by rw [List.length_set]; exact E.len, E.ext, fun j d hd => ?_, fun i j p d e _ h => by cases h⟩
  by_cases hj : i = j
  · subst hj
    rw [List.getElem?_set] at hd
    split at hd
    · split at hd <;> cases hd
    · exact absurd rfl ‹_›
  · rw [List.getElem?_set_ne hj] at hd
    obtain ⟨v, h1, h2⟩ := E.slot j d hd
    have hc : ([i] : List Nat).contains j = false := by simp; exact fun z => hj z.symm
    rw [hc] at h2
    exact ⟨v, h1, h2⟩
def forG (b : D → Ev0 → Res Ev0) (gy gv : Ev0 → Res D) : List D → Ev0 → List (Key × D) → Option (Ev0 × List (Key × D))
  | [], ρ, ds => some (ρ, ds)
  | x :: xs, ρ, ds => match b x ρ with
    | .ok ρ1 => match gy ρ1 with
      | .ok (.int y) => match gv ρ1 with
        | .ok v => forG b gy gv xs ρ1 (grp (.inl y) v ds)
        | _ => none
      | _ => none
    | _ => none
def oGroup (i : Nat) (gi : Ev0 → Res (List D)) (b : D → Ev0 → Res Ev0) (gy gv : Ev0 → Res D) : Ev0 → Out := fun ρ => match ρ[i]? with
  | some (some (.dK [])) => rOut (gi ρ) fun xs => if xs.length < sizeLine then match forG b gy gv xs (ρ.set i none) [] with
    | some (ρ', ds) => .nx (ρ'.set i (some (.dK ds)))
    | none => .no
    else .no
  | _ => .no
section
variable {ι : Type} {X : ι → Cx} {W : WX} {m : Mds} {kr : Kd} {pos : Pos}
theorem fe_dnewK {M : List Nat} : FE Γ X W M (.Dict [] [] pos) .ow (gC (.dK [])) := by
  refine ⟨_, fun i => pe_dnewK, fun F0 H0 F H σ ρ Q E hp => fun p hq => ?_⟩
  exact hp _ _ _ (Ext.own E.same hq) ⟨p, _, rfl, hq, E.same.free hq, upd_same, .dK rfl .nil⟩
/-- an empty dict for tuples as keys -/
theorem fe_dnewT {M : List Nat} : FE Γ X W M (.Dict [] [] pos) .ow (gC (.dT [])) := by
  refine ⟨_, fun i => pe_dnewT, fun F0 H0 F H σ ρ Q E hp => fun p hq => ?_⟩
  exact hp _ _ _ (Ext.own E.same hq) ⟨p, _, rfl, hq, E.same.free hq, upd_same, .dT rfl .nil⟩
/-- what the statement wants of the text -/
structure GTx {ι : Type} (X : ι → Cx) (x : Str) (p1 ap cp ap2 cp2 ps lp : Pos) (ey ev : Expr) : Prop where
  m2 : ∀ j, M2 (X j) (.Name x p1) "setdefault" ap ey (.List [] lp) cp
  hbase : ∀ j, attributeBase (.Call (.Attribute (.Name x p1) "setdefault" ap) [ey, .List [] lp] [] cp) "append" (X j).env (eval (.Call (.Attribute (.Name x p1) "setdefault" ap) [ey, .List [] lp] [] cp) (X j).env) = eval (.Call (.Attribute (.Name x p1) "setdefault" ap) [ey, .List [] lp] [] cp) (X j).env
  hfew : ∀ j, ((backTo cp2 (starEach [ev] (X j).env)).all (fun x => !x.1) && (backToKw cp2 (keywordEach [] (X j).env)).all (fun x => x.1.isSome) && decide (([ev] : List Expr).length + ([] : List Keyword).length + (if ([] : List Keyword).isEmpty then 0 else 1) < 30)) = true
  hline : (ap2.endLine == cp2.line) = true
  he : ∀ j, starEach [ev] (X j).env = (false, eval ev (X j).env) :: starEach [] (X j).env
  hpl : ∀ j, (backTo cp2 (starEach [] (X j).env)).any (·.1) = false
  hs : ∀ j, swapsWith (.Call (.Attribute (.Call (.Attribute (.Name x p1) "setdefault" ap) [ey, .List [] lp] [] cp) "append" ap2) [ev] [] cp2) none ps.line (X j).env = pure false
theorem fs_group (A : Amb Γ X) (i : Nat) {x : Str} {p1 ap cp ap2 cp2 ps lp : Pos} {tg iter ey ev : Expr} {is bk ct : List Nat} {gi : Ev0 → Res (List D)} {b : D → Ev0 → Res Ev0} {gy gv : Ev0 → Res D}
    (hpo : ∀ i, PassesOwn (model (X i).prog (X i).w) (X i).A (X i).env (X i).xe) (hN : ∀ j, (X j).N[i]? = some x) (hv : ∀ j, Vis (X j).env.scope x) (hni : is.contains i = false)
    (hi : FI Γ X W [i] tg iter gi) (hg : FG Γ X [] is tg b) (hy : FE Γ X W [] ey .sh gy) (hw : FE Γ X W [] ev .sh gv) (T : GTx X x p1 ap cp ap2 cp2 ps lp ey ev)
    (hs : ∀ i x, foldedSetIterable iter (X i).env x = pure x) (hd : (x == ("__debug__" : Str)) = false := by decide) (hcd : (x == ("__classdict__" : Str)) = false := by decide) :
    FS Γ X W [i] ⟨[i], bk, ct⟩ kr (.For tg iter [.Expr (.Call (.Attribute (.Call (.Attribute (.Name x p1) "setdefault" ap) [ey, .List [] lp] [] cp) "append" ap2) [ev] [] cp2) ps] [] pos) (oGroup i gi b gy gv) := by
  obtain ⟨wi, pi, ei⟩ := hi.ex
  obtain ⟨g, pg, eg⟩ := hg.ex
  obtain ⟨ty, py, evy⟩ := hy.ex
  obtain ⟨tv, pv, evv⟩ := hw.ex
  have pb : ∀ j, PSs (X j) [.Expr (.Call (.Attribute (.Call (.Attribute (.Name x p1) "setdefault" ap) [ey, .List [] lp] [] cp) "append" ap2) [ev] [] cp2) ps]
      (fun D σ H => tDSetd (tVar i) ty (tLst tNil) σ H fun x H1 => tyV Γ.K "list" x H1 ∧ tCons tv tNil σ H1 fun xs H2 => rAppend x xs H2 fun _ H3 => D.nx σ H3) := fun j => by
    have := pss_one (ps_expr (pos := ps) (pe_bm PySem.F.plainAttrs_list PySem.F.slot_list_append PySem.F.type_list_append mt_append (pe_dsetd (pe_var (hN j) (hv j) hd hcd) (py j) (pe_lst pa_nil) (T.m2 j)) (pa_one (pv j) (T.he j)) (T.hbase j) (T.hfew j) T.hline (T.he j) (T.hpl j)) (T.hs j))
    rw [A.K j] at this
    exact this
  refine ⟨_, fun i => ps_for (hpo i) (A.calm i) (pi i) (pg i) (pb i) (hs i), fun F0 H0 F H σ ρ D E hp => ?_⟩
  show wi σ H _
  unfold oGroup at hp
  split at hp
  case h_2 => exact hp.elim
  rename_i hρ
  refine EvG.out (m := ⟨[i], bk, ct⟩) ei E hp fun xs F1 H1 J e1 E1 rI hp1 => ?_
  by_cases hlen : xs.length < sizeLine
  case neg => rw [if_neg hlen] at hp1; exact hp1.elim
  rw [if_pos hlen] at hp1
  obtain ⟨p, o, hσ, h0p, hfp, hHp, hh⟩ := E1.own (by simp) hρ
  cases hh with
  | @dK kvs0 ds0 hk0 r0 =>
    have hkv : kvs0 = [] := by
      cases kvs0 with
      | nil => rfl
      | cons a t => cases hk0
    subst hkv
    generalize ho : forG b gy gv xs (ρ.set i none) [] = out at hp1
    refine ⟨fun n c σ' H' => c = xs.length - n ∧ n ≤ xs.length ∧ ∃ F' ρ' ds kvs qs, EO Γ F0 H0 F' H' [] σ' ρ' ∧ Same F1 F' ∧ σ'[i]? = some (some (.ref p)) ∧ F' p = none ∧ H' p = some (.dK kvs) ∧ Subs Γ H0 F' H' n kvs ds qs ∧ (p :: qs).Nodup ∧ kvs.length ≤ n ∧ forG b gy gv (xs.drop n) ρ' ds = out,
      ⟨xs.length, by simp, Nat.zero_le _, F1, ρ.set i none, [], [], [], E1.drop, Same.refl _, hσ, hfp, hHp, .nil, by simp, Nat.le_refl _, ho⟩, ?_⟩
    rintro n c σ' H' ⟨rfl, hil, F', ρ', ds, kvs, qs, E', s', hσ', hfp', hHp', S, nd, hkl, hf⟩
    obtain ⟨hgo, hstop⟩ := rI n F' H' s' E'.same
    by_cases hlt : n < xs.length
    · refine .inr ?_
      obtain ⟨go, hyl⟩ := hgo _ (List.getElem?_eq_getElem hlt)
      refine ⟨go, fun σ2 H2 => n + 1 ≤ xs.length ∧ ∃ F' ρ' ds kvs qs, EO Γ F0 H0 F' H2 [] σ2 ρ' ∧ Same F1 F' ∧ σ2[i]? = some (some (.ref p)) ∧ F' p = none ∧ H2 p = some (.dK kvs) ∧ Subs Γ H0 F' H2 (n + 1) kvs ds qs ∧ (p :: qs).Nodup ∧ kvs.length ≤ n + 1 ∧ forG b gy gv (xs.drop (n + 1)) ρ' ds = out,
        fun σ2 H2 ⟨h1, h2⟩ => ⟨xs.length - (n + 1), by omega, rfl, h1, h2⟩, fun v H2 y => ?_⟩
      obtain ⟨F2, e2, rx⟩ := hyl v H2 y
      have E2 := E'.extend e2
      have fp2 := e2.free hfp' hHp'
      have Hp2 := e2.h _ _ hHp'
      have S2 := S.ext e2
      rw [List.drop_eq_getElem_cons hlt] at hf
      unfold forG at hf
      split at hf
      case h_2 => subst hf; exact hp1.elim
      rename_i ρ1 hb
      refine eg F0 H0 F2 H2 σ' ρ' v _ ρ1 _ E2 rx hb fun σ3 E3 hwipe => ?_
      have hσ3 : σ3[i]? = some (some (.ref p)) := by
        have e := hwipe is (fun _ h => h)
        have ni : i ∉ is := fun z => by
          rw [List.contains_iff_mem.mpr z] at hni
          cases hni
        have e2 := congrArg (fun l => l[i]?) e
        simp only [wipe_get, if_neg ni] at e2
        rw [e2]
        exact hσ'
      split at hf
      case h_2 => subst hf; exact hp1.elim
      rename_i yk hgy
      split at hf
      case h_2 => subst hf; exact hp1.elim
      rename_i dv hgv
      have nd' := List.nodup_cons.mp nd
      -- the call of setdefault
      refine ⟨_, hσ3, p, rfl, .inl ⟨kvs, .inl Hp2⟩, ?_⟩
      refine evy F0 H0 F2 H2 σ3 ρ1 _ E3 ?_
      rw [hgy]
      intro F3 H3 vy e3 ry
      have ry : Rep Γ F3 vy (.int yk) := ry
      cases ry
      have E4 := E3.extend e3
      refine ⟨Nat.zero_le _, fun z hz => ?_⟩
      have fp3 := e3.free fp2 Hp2
      have Hp3 := e3.h _ _ Hp2
      have S3 := S2.ext e3
      have ez : Ext F3 H3 F3 (L2.upd H3 z (.lst [])) := Ext.own E4.same hz
      have E5 := E4.extend ez
      have npz : p ≠ z := fun w => by rw [w, hz] at Hp3; cases Hp3
      have S5 := S3.ext ez
      have Hp5 := ez.h _ _ Hp3
      have h0z : H0 z = none := by
        cases w : H0 z with
        | none => rfl
        | some u => rw [E4.ext.h _ _ w] at hz; cases hz
      have fz : F3 z = none := E4.same.free hz
      have zq : z ∉ qs := fun w => by
        obtain ⟨ys, h⟩ := S3.there z w
        rw [hz] at h; cases h
      refine ⟨kvs, .inl yk, Hp5, rfl, by omega, fun v hvv => ?_, fun hn => ?_⟩
      · -- the key stands there
        obtain ⟨q, ys, rfl, hq, hHq, hql, h0q, fq⟩ := S5.hit hvv
        refine ⟨.inl ⟨rfl, ys, SqL.of hHq⟩, ?_⟩
        show tv σ3 _ _
        refine evv F0 H0 F3 _ σ3 ρ1 _ E5 ?_
        rw [hgv]
        intro F6 H6 w e6 rw'
        have rw' : Rep Γ F6 w dv := rw'
        have hHq6 := e6.h _ _ hHq
        have fq6 := e6.free fq hHq
        have S6 := S5.ext e6
        have pq : p ≠ q := fun z => nd'.1 (z ▸ hq)
        refine ⟨q, ys, w, rfl, rfl, hHq6, by omega, ?_⟩
        refine ⟨hlt, F6, ρ1, _, kvs, qs, (E5.extend e6).upd0 h0q fq6, s'.trans (e2.f.trans (e3.f.trans e6.f)), hσ3, e6.free fp3 Hp5, by rw [upd_ne pq]; exact e6.h _ _ Hp5, S6.more hHq6 rw' nd'.2 hvv, nd, by omega, hf⟩
      · -- a new list
        rw [putK_new _ hn]
        have Hz : (L2.upd (L2.upd H3 z (.lst [])) p (.dK (kvs ++ [(.inl yk, .ref z)]))) z = some (.lst []) := by rw [upd_ne (Ne.symm npz)]; exact upd_same
        refine ⟨.inl ⟨rfl, [], SqL.of Hz⟩, ?_⟩
        show tv σ3 _ _
        have E6 := E5.upd0 (o := .dK (kvs ++ [(.inl yk, .ref z)])) h0p fp3
        refine evv F0 H0 F3 _ σ3 ρ1 _ E6 ?_
        rw [hgv]
        intro F6 H6 w e6 rw'
        have rw' : Rep Γ F6 w dv := rw'
        have Hz6 := e6.h _ _ Hz
        have fz6 := e6.free fz Hz
        have S6 := (S5.upd (o := .dK (kvs ++ [(.inl yk, .ref z)])) nd'.1).ext e6
        refine ⟨z, [], w, rfl, rfl, Hz6, by rw [sizeL]; decide, ?_⟩
        refine ⟨hlt, F6, ρ1, _, _, qs ++ [z], (E6.extend e6).upd0 h0z fz6, s'.trans (e2.f.trans (e3.f.trans e6.f)), hσ3, e6.free fp3 upd_same, by rw [upd_ne npz]; exact e6.h _ _ upd_same, S6.fresh h0z fz6 rw' zq hn, ?_, by rw [List.length_append]; simp; omega, hf⟩
        rw [List.nodup_cons, List.nodup_append]
        refine ⟨fun w => ?_, nd'.2, by simp, fun a ha c hc => ?_⟩
        · rcases List.mem_append.mp w with w | w
          · exact nd'.1 w
          · exact npz (List.mem_singleton.mp w)
        · rw [List.mem_singleton.mp hc]
          exact fun w => zq (w ▸ ha)
    · refine .inl ⟨hstop (by omega), ?_⟩
      have hz : xs.drop n = [] := List.drop_eq_nil_of_le (by omega)
      rw [hz] at hf
      unfold forG at hf
      subst hf
      have nd' := List.nodup_cons.mp nd
      obtain ⟨F2, ex2, s2, o2, k2, r2⟩ := S.freeze nd'.2 E'.ext
      have fp2 : F2 p = none := by rw [o2 p nd'.1]; exact hfp'
      have hil : i < σ'.length := by
        cases w : decide (i < σ'.length) with
        | true => exact of_decide_eq_true w
        | false => rw [List.getElem?_eq_none (by have := of_decide_eq_false w; omega)] at hσ'; cases hσ'
      refine hp1 F2 H' σ' (s'.trans s2) ⟨by rw [List.length_set]; exact E'.len, ex2, fun j d hj => ?_, fun j k a d e hjk h1 h2 => ?_⟩
      · by_cases hji : i = j
        · subst hji
          rw [List.getElem?_set_self (by rw [← E'.len]; exact hil)] at hj
          cases hj
          refine ⟨_, hσ', ?_⟩
          have hc : ([i] : List Nat).contains i = true := by simp
          rw [hc]
          exact ⟨p, _, rfl, h0p, fp2, hHp', .dK k2 r2⟩
        · rw [List.getElem?_set_ne hji] at hj
          obtain ⟨v, h1, h2⟩ := E'.slot j d hj
          have hc : ([i] : List Nat).contains j = false := by simp; exact fun z => hji z.symm
          rw [hc]
          exact ⟨v, h1, Rep.mono s2 h2⟩
      · have z1 : j = i := by simpa using h1
        have z2 : k = i := by simpa using h2
        exact absurd (z1.trans z2.symm) hjk
end
end FL
namespace FL
open PySem PySem.Spec PyProof.Rows L2
variable {Γ : Gx}
/-! ### a shared dict, locked while it is walked -/
def plainO : HO → Prop
  | .lst _ => True
  | .tup _ => True
  | .dK _ => True
  | .dT _ => True
  | _ => False
theorem plain_nofrz {u : HO} (h : plainO u) (o : Obj) (w : HO) : u ≠ .frz o w := fun z => by subst z; exact h
mutual
theorem Rep.via {F F' : Hp} (h0 : ∀ a xs, (F a = some (.tup xs) → F' a = some (.tup xs)) ∧ (∀ o, F a = some (.frz o (.tup xs)) → F' a = some (.frz o (.tup xs))) ∧ (F a = some (.lst xs) → F' a = some (.lst xs))) (h1 : ∀ a u, plainO u → Rd F a u → Rd F' a u) (h2 : ∀ a C dx fs, F a = some (.ins C dx fs) → F' a = some (.ins C dx fs)) : ∀ {v : V} {d : D}, Rep Γ F v d → Rep Γ F' v d
  | _, _, .non => .non
  | _, _, .bl b => .bl b
  | _, _, .int i => .int i
  | _, _, .str s => .str s
  | _, _, .tup h r => .tup (h.elim (fun z => .inl ⟨z.1, (h0 _ _).1 z.2⟩) fun ⟨hn, o, z1, z2⟩ => .inr ⟨hn, o, z1, (h0 _ _).2.1 o z2⟩) (RepL.via h0 h1 h2 r)
  | _, _, .ctup h r => .ctup h (RepL.via h0 h1 h2 r)
  | _, _, .lst h r => .lst ((h0 _ _).2.2 h) (RepL.via h0 h1 h2 r)
  | _, _, .dK h k r => .dK (h1 _ _ trivial h) k (RepL.via h0 h1 h2 r)
  | _, _, .dT h k r => .dT (h1 _ _ trivial h) k (RepL.via h0 h1 h2 r)
  | _, _, .obj h c k r => .obj (h2 _ _ _ _ h) c k (RepL.via h0 h1 h2 r)
  | _, _, .scr h => .scr (h.elim (fun z => .inl (h1 _ _ trivial z)) .inr)
theorem RepL.via {F F' : Hp} (h0 : ∀ a xs, (F a = some (.tup xs) → F' a = some (.tup xs)) ∧ (∀ o, F a = some (.frz o (.tup xs)) → F' a = some (.frz o (.tup xs))) ∧ (F a = some (.lst xs) → F' a = some (.lst xs))) (h1 : ∀ a u, plainO u → Rd F a u → Rd F' a u) (h2 : ∀ a C dx fs, F a = some (.ins C dx fs) → F' a = some (.ins C dx fs)) : ∀ {vs : List V} {ds : List D}, RepL Γ F vs ds → RepL Γ F' vs ds
  | _, _, .nil => .nil
  | _, _, .cons h r => .cons (Rep.via h0 h1 h2 h) (RepL.via h0 h1 h2 r)
end
theorem rd_lock {F : Hp} {d : Addr} {od : Obj} {w : HO} (hw : plainO w) (hd : F d = some w) (a : Addr) (u : HO) (hu : plainO u) (h : Rd F a u) : Rd (upd F d (.frz od w)) a u := by
  by_cases e : a = d
  · subst e
    rcases h with h | ⟨o, h⟩
    · rw [hd] at h; cases h; exact .inr ⟨od, upd_same⟩
    · rw [hd] at h; cases h; exact hw.elim
  · rcases h with h | ⟨o, h⟩
    · exact .inl (by rw [upd_ne e]; exact h)
    · exact .inr ⟨o, by rw [upd_ne e]; exact h⟩
theorem rd_unlock {F : Hp} {d : Addr} {od : Obj} {w : HO} (hd : F d = some (.frz od w)) (a : Addr) (u : HO) (hu : plainO u) (h : Rd F a u) : Rd (upd F d w) a u := by
  by_cases e : a = d
  · subst e
    rcases h with h | ⟨o, h⟩
    · rw [hd] at h; cases h; exact hu.elim
    · rw [hd] at h; cases h; exact .inl upd_same
  · rcases h with h | ⟨o, h⟩
    · exact .inl (by rw [upd_ne e]; exact h)
    · exact .inr ⟨o, by rw [upd_ne e]; exact h⟩
theorem tup_upd {F : Hp} {d : Addr} {w x : HO} (hd : F d = some w) (hw : ∀ xs, w ≠ .tup xs) (hw2 : ∀ o xs, w ≠ .frz o (.tup xs)) (hw3 : ∀ xs, w ≠ .lst xs := by intro _ z; cases z) (a : Addr) (xs : List V) : (F a = some (.tup xs) → upd F d x a = some (.tup xs)) ∧ (∀ o, F a = some (.frz o (.tup xs)) → upd F d x a = some (.frz o (.tup xs))) ∧ (F a = some (.lst xs) → upd F d x a = some (.lst xs)) := by
  refine ⟨fun h => ?_, fun o h => ?_, fun h => ?_⟩
  · by_cases e : a = d
    · subst e; rw [hd] at h; cases h; exact absurd rfl (hw _)
    · rw [upd_ne e]; exact h
  · by_cases e : a = d
    · subst e; rw [hd] at h; cases h; exact absurd rfl (hw2 _ _)
    · rw [upd_ne e]; exact h
  · by_cases e : a = d
    · subst e; rw [hd] at h; cases h; exact absurd rfl (hw3 _)
    · rw [upd_ne e]; exact h
theorem ins_upd {F : Hp} {d : Addr} {w x : HO} (hd : F d = some w) (hw : ∀ C dx fs, w ≠ .ins C dx fs) (a C dx : Addr) (fs : List (Str × V)) (h : F a = some (.ins C dx fs)) : upd F d x a = some (.ins C dx fs) := by
  by_cases e : a = d
  · subst e
    rw [hd] at h
    cases h
    exact absurd rfl (hw _ _ _)
  · rw [upd_ne e]; exact h
def keyD : Key → D
  | .inl i => .int i
  | .inr s => .str s
theorem keyD_rep {F : Hp} : ∀ k : Key, Rep Γ F (kV k) (keyD k)
  | .inl i => .int i
  | .inr s => .str s
def itemD (p : Key × D) : D := .tup [keyD p.1, p.2]
theorem pairs_key (k : Key) (r : List D) : pairsO (keyD k :: r) = none := by cases k <;> rfl
theorem iti_R {F : Hp} {d : Addr} {o : Obj} {kvs : List (Key × V)} {ds : List (Key × D)} (hF : F d = some (.frz o (.dK kvs))) (hk : kvs.map (·.1) = ds.map (·.1)) (r : RepL Γ F (kvs.map (·.2)) (ds.map (·.2))) : ItR Γ F (Iti d o kvs) (ds.map itemD) := fun i F1 H1 s1 s2 => by
  have hH : H1 d = some (.frz o (.dK kvs)) := s2 _ _ (s1 _ _ hF)
  have hl : kvs.length = ds.length := by have := congrArg List.length hk; simpa using this
  refine ⟨fun e he => ?_, fun h => ⟨hH, by rw [List.length_map] at h; omega⟩⟩
  rw [List.getElem?_map, Option.map_eq_some_iff] at he
  obtain ⟨⟨k, dd⟩, hd, rfl⟩ := he
  have hi : i < ds.length := by
    cases z : decide (i < ds.length) with
    | true => exact of_decide_eq_true z
    | false => rw [List.getElem?_eq_none (by have := of_decide_eq_false z; omega)] at hd; cases hd
  refine ⟨⟨hH, by omega⟩, fun x H2 y => ?_⟩
  obtain ⟨T, k', v, hkv, rfl, hT, rfl⟩ := y
  have e1 : k' = k := by
    have := congrArg (fun l => l[i]?) hk
    simp only [List.getElem?_map, hkv, hd] at this
    simpa using this
  subst e1
  obtain ⟨v', hv', rv⟩ := r.get (i := i) (d := dd) (by rw [List.getElem?_map, hd]; rfl)
  rw [List.getElem?_map, hkv] at hv'
  cases hv'
  refine ⟨upd F1 T (.tup [kV k', v]), ⟨same_new (s2.free hT), same_new hT, fun a u h => ?_, fun a u h => ?_⟩, .tup (.inl ⟨pairs_key _ _, upd_same⟩) ?_⟩
  · by_cases e : a = T
    · subst e; rw [upd_same] at h ⊢; exact h
    · rw [upd_ne e] at h ⊢; exact s2 _ _ h
  · by_cases e : a = T
    · subst e; exact .inr (.inl hT)
    · rw [upd_ne e] at h; exact .inl ⟨u, h⟩
  · have sn : Same F1 (upd F1 T (.tup [kV k', v])) := same_new (s2.free hT)
    exact .cons (keyD_rep k') (.cons (rv.mono (s1.trans sn)) .nil)
theorem pe_or {X : Cx} {e : Expr} {t u : TE} (h1 : PE X e t) (h2 : PE X e u) : PE X e (fun σ H Q => t σ H Q ∨ u σ H Q) :=
  ⟨fun pins s σ H Q I h => h.elim (fun q => h1.run pins s σ H Q I q) fun q => h2.run pins s σ H Q I q⟩
def gItems (i : Nat) : Ev0 → Res (List D) := fun ρ => match ρ[i]? with
  | some (some (.dK ds)) => .ok (ds.map itemD)
  | _ => .no
section
variable {ι : Type} {X : ι → Cx} {W : WX} {M is : List Nat} {pos : Pos} {elt : Expr} {ifs : List Expr} {sc : Scope} {b : D → Ev0 → Res Ev0} {gt : Ev0 → Res Bool} {ge : Ev0 → Res D}
theorem fe_lcItems (A : Amb Γ X) (i : Nat) {x : Str} {p1 ap cp tpos : Pos} {elts : List Expr} {kk : Nat} (own : List (Str × Nat)) (hN : ∀ j, (X j).N[i]? = some x) (hv : ∀ j, Vis (X j).env.scope x) (hm : M.contains i = false)
    (hbase : ∀ j, attributeBase (.Name x p1) "items" (X j).env (eval (.Name x p1) (X j).env) = eval (.Name x p1) (X j).env) (hline : (ap.endLine == cp.line) = true)
    (ok : ∀ i, BlkOk (X i).N (X i).env.scope sc own) (hg : FG Γ (Blk X sc) M is (.Tuple elts kk tpos) b) (ht : FTs Γ (Blk X sc) W0 M ifs gt) (he : FE Γ (Blk X sc) W0 M elt .sh ge)
    (hsub : ∀ i ∈ is, i ∈ own.map (·.2)) (hs : ∀ i x', foldedSetIterable (.Call (.Attribute (.Name x p1) "items" ap) [] [] cp) (X i).env x' = pure x') (hd : (x == ("__debug__" : Str)) = false := by decide) (hcd : (x == ("__classdict__" : Str)) = false := by decide) :
    FE Γ X W M (.ListComp elt [⟨.Tuple elts kk tpos, .Call (.Attribute (.Name x p1) "items" ap) [] [] cp, ifs, 0⟩] sc pos) .ow (gComp (own.map (·.2)) (gItems i) b gt ge) := by
  obtain ⟨g, pg, eg⟩ := hg.ex
  obtain ⟨tt, pt, et⟩ := ht.ex
  obtain ⟨te, pe, ee⟩ := he.ex
  have pl : ∀ j, PE (X j) (.ListComp elt [⟨.Tuple elts kk tpos, .Call (.Attribute (.Name x p1) "items" ap) [] [] cp, ifs, 0⟩] sc pos) (tLc (iItems (tVar i)) g tt te (own.map (·.2))) := fun j =>
    pe_lc (A.calm j) (A.nd j) (pi_items (pe_var (hN j) (hv j) hd hcd) (hbase j) hline) (ok j) (fun s H C cl fp => pg ⟨j, s, H, C, cl, fp⟩) (fun s H C cl fp => pt ⟨j, s, H, C, cl, fp⟩) (fun s H C cl fp => pe ⟨j, s, H, C, cl, fp⟩) (hs j)
  refine ⟨_, fun j => pe_or (pe_lock (pl j)) (pl j), fun F0 H0 F H σ ρ Q E hp => ?_⟩
  unfold gComp gItems at hp
  cases h0 : ρ[i]? with
  | none => rw [h0] at hp; exact hp.elim
  | some o0 =>
    cases o0 with
    | none => rw [h0] at hp; exact hp.elim
    | some d0 =>
      rw [h0] at hp
      obtain ⟨v, hσ, hr⟩ := E.slot i d0 h0
      rw [hm] at hr
      have hr : Rep Γ F v d0 := hr
      cases hr with
      | @dK a kvs ds hrd hk r =>
        have hp : PostG Γ W F H σ (RE Γ .ow) (match compO (own.map (·.2)) b gt ge ρ (ds.map itemD) with | .ok r => if r.length ≤ sizeLine then .ok (.lst r) else .no | _ => .no) Q := hp
        rcases hrd with hF | ⟨o, hF⟩
        · -- locked for the while
          refine .inl ⟨a, .dK kvs, E.same _ _ hF, trivial, fun od => ?_⟩
          have nins : ∀ C dx fs, (HO.dK kvs) ≠ .ins C dx fs := fun C dx fs z => nomatch z
          have ntup : ∀ xs, (HO.dK kvs) ≠ .tup xs := fun xs z => nomatch z
          have nfz : ∀ o xs, (HO.dK kvs) ≠ .frz o (.tup xs) := fun o xs z => nomatch z
          have ntup2 : ∀ xs, (HO.frz od (.dK kvs)) ≠ .tup xs := fun xs z => nomatch z
          have nfz2 : ∀ o xs, (HO.frz od (.dK kvs)) ≠ .frz o (.tup xs) := fun o xs z => by injection z with _ z; cases z
          have E1 : EO Γ (upd F a (.frz od (.dK kvs))) (upd F a (.frz od (.dK kvs))) (upd F a (.frz od (.dK kvs))) (upd H a (.frz od (.dK kvs))) M σ ρ := by
            refine ⟨E.len, ⟨Same.refl _, fun c u h => ?_, fun c u h => ?_, fun c u h => .inl ⟨u, h⟩⟩, fun j d hj => ?_, E.disj⟩
            · by_cases e : c = a
              · subst e; rw [upd_same] at h ⊢; exact h
              · rw [upd_ne e] at h ⊢; exact E.same _ _ h
            · by_cases e : c = a
              · subst e; rw [upd_same] at h ⊢; exact h
              · rw [upd_ne e] at h ⊢; exact E.same _ _ h
            · obtain ⟨v, h1, h2⟩ := E.slot j d hj
              refine ⟨v, h1, ?_⟩
              cases hc : M.contains j with
              | false =>
                rw [hc] at h2
                exact Rep.via (tup_upd hF ntup nfz) (rd_lock (w := .dK kvs) trivial hF) (ins_upd hF nins) h2
              | true =>
                rw [hc] at h2
                obtain ⟨p, o, rfl, h3, h4, h5, h6⟩ := h2
                have np : p ≠ a := fun z => by rw [z, hF] at h4; cases h4
                refine ⟨p, o, rfl, by rw [upd_ne np]; exact h4, by rw [upd_ne np]; exact h4, by rw [upd_ne np]; exact h5, ?_⟩
                cases h6 with
                | lst r => exact .lst (RepL.via (tup_upd hF ntup nfz) (rd_lock (w := .dK kvs) trivial hF) (ins_upd hF nins) r)
                | dK k r => exact .dK k (RepL.via (tup_upd hF ntup nfz) (rd_lock (w := .dK kvs) trivial hF) (ins_upd hF nins) r)
                | dT k r => exact .dT k (RepL.via (tup_upd hF ntup nfz) (rd_lock (w := .dK kvs) trivial hF) (ins_upd hF nins) r)
          refine ⟨_, hσ, a, od, kvs, rfl, upd_same, ?_⟩
          show lcT g tt te (own.map (·.2)) σ (fun v H' => H' a = some (.frz od (.dK kvs)) ∧ Q v (upd H' a (.dK kvs))) (Iti a od kvs) (upd H a (.frz od (.dK kvs)))
          refine lc_tail (W := W) eg hsub et ee E1 (iti_R upd_same hk (RepL.via (tup_upd hF ntup nfz) (rd_lock (w := .dK kvs) trivial hF) (ins_upd hF nins) r)) ?_
          cases hc : compO (own.map (·.2)) b gt ge ρ (ds.map itemD) with
          | ok rs =>
            rw [hc] at hp
            dsimp only at hp ⊢
            split at hp
            · rename_i hl
              rw [if_pos hl]
              rintro F' H' w e1 ⟨p, oo, rfl, h1, h2, h3, h4⟩
              have Fa : F' a = some (.frz od (.dK kvs)) := e1.f _ _ upd_same
              have Ha : H' a = some (.frz od (.dK kvs)) := e1.h _ _ upd_same
              refine ⟨Ha, ?_⟩
              have npa : p ≠ a := fun z => by rw [z, Fa] at h2; cases h2
              have nfzi : ∀ C dx fs, (HO.frz od (.dK kvs)) ≠ .ins C dx fs := fun C dx fs z => nomatch z
              refine hp (upd F' a (.dK kvs)) (upd H' a (.dK kvs)) _ ⟨fun c u h => ?_, fun c u h => ?_, fun c u h => ?_, fun c u h => ?_⟩ ⟨p, oo, rfl, ?_, by rw [upd_ne npa]; exact h2, by rw [upd_ne npa]; exact h3, ?_⟩
              · by_cases e : c = a
                · subst e; rw [hF] at h; rw [upd_same]; exact h
                · rw [upd_ne e]; exact e1.f _ _ (by rw [upd_ne e]; exact h)
              · by_cases e : c = a
                · subst e; rw [E.same _ _ hF] at h; rw [upd_same]; exact h
                · rw [upd_ne e]; exact e1.h _ _ (by rw [upd_ne e]; exact h)
              · by_cases e : c = a
                · subst e; rw [upd_same] at h ⊢; exact h
                · rw [upd_ne e] at h ⊢; exact e1.i _ _ h
              · by_cases e : c = a
                · subst e; exact .inl ⟨_, hF⟩
                · rw [upd_ne e] at h
                  rcases e1.n _ _ h with ⟨w, y⟩ | y | ⟨xs, y⟩
                  · rw [upd_ne e] at y; exact .inl ⟨w, y⟩
                  · rw [upd_ne e] at y; exact .inr (.inl y)
                  · rw [upd_ne e] at y; exact .inr (.inr ⟨xs, y⟩)
              · rw [upd_ne npa] at h1; exact h1
              · cases h4 with
                | lst r => exact .lst (RepL.via (tup_upd Fa ntup2 nfz2) (rd_unlock Fa) (ins_upd Fa nfzi) r)
            · exact hp.elim
          | ex c => rw [hc] at hp; exact hp.elim
          | no => rw [hc] at hp; exact hp.elim
        · -- locked already
          refine .inr ⟨_, hσ, a, o, kvs, rfl, E.same _ _ hF, ?_⟩
          show lcT g tt te (own.map (·.2)) σ Q (Iti a o kvs) H
          exact lc_tail (W := W) eg hsub et ee E (iti_R hF hk r) hp
      | _ => exact hp.elim
end
end FL
namespace FL
open PySem PySem.Spec PyProof.Rows L2
variable {Γ : Gx}
/-! ### a list of pairs (key, list), of which only the last list changes -/
theorem pairs_l1 (es : List D) : pairsO [.lst es] = none := rfl
theorem pairs_lst (d : D) (es : List D) : pairsO [d, .lst es] = none := by
  unfold pairsO
  split
  · rename_i e; cases e
  · rename_i e
    injection e with e1 e2
    subst e2
    rw [pairs_l1]
    split
    · rename_i e; cases e
    · rfl
  · rfl
/-- the items, the last ahead -/
inductive DRows (Γ : Gx) (H0 F H : Hp) : List V → List D → List Addr → Prop
  | nil : DRows Γ H0 F H [] [] []
  | cons {t q : Addr} {v : V} {d : D} {xs : List V} {es : List D} {vs : List V} {ds : List D} {as : List Addr} : H0 t = none → H0 q = none → F t = none → F q = none → H t = some (.tup [v, .ref q]) → H q = some (.lst xs) → Rep Γ F v d → RepL Γ F xs es → DRows Γ H0 F H vs ds as →
    DRows Γ H0 F H (.ref t :: vs) (.tup [d, .lst es] :: ds) (t :: q :: as)
theorem DRows.ext {H0 F H F' H' : Hp} (e : Ext F H F' H') : ∀ {vs : List V} {ds : List D} {as : List Addr}, DRows Γ H0 F H vs ds as → DRows Γ H0 F' H' vs ds as
  | _, _, _, .nil => .nil
  | _, _, _, .cons a b c d f g r rl s => .cons a b (e.free c f) (e.free d g) (e.h _ _ f) (e.h _ _ g) (r.mono e.f) (rl.mono e.f) (DRows.ext e s)
theorem DRows.upd {H0 F H : Hp} {a : Addr} {o : HO} : ∀ {vs : List V} {ds : List D} {as : List Addr}, a ∉ as → DRows Γ H0 F H vs ds as → DRows Γ H0 F (L2.upd H a o) vs ds as
  | _, _, _, _, .nil => .nil
  | _, _, _, ha, .cons p b c d f g r rl s => .cons p b c d (by rw [upd_ne (ne_mem ha)]; exact f) (by rw [upd_ne (ne_mem fun z => ha (List.mem_cons_of_mem _ z))]; exact g) r rl (DRows.upd (fun z => ha (List.mem_cons_of_mem _ (List.mem_cons_of_mem _ z))) s)
theorem DRows.len {H0 F H : Hp} : ∀ {vs : List V} {ds : List D} {as : List Addr}, DRows Γ H0 F H vs ds as → vs.length = ds.length
  | _, _, _, .nil => rfl
  | _, _, _, .cons _ _ _ _ _ _ _ _ s => congrArg (· + 1) s.len
theorem DRows.there {H0 F H : Hp} : ∀ {vs : List V} {ds : List D} {as : List Addr}, DRows Γ H0 F H vs ds as → ∀ a ∈ as, ∃ o, H a = some o
  | _, _, _, .cons _ _ _ _ f g _ _ s, a, ha => by
    rcases List.mem_cons.mp ha with rfl | ha
    · exact ⟨_, f⟩
    · rcases List.mem_cons.mp ha with rfl | ha
      · exact ⟨_, g⟩
      · exact DRows.there s a ha
theorem DRows.freeze {F0 H0 H : Hp} : ∀ {vs : List V} {ds : List D} {as : List Addr} {F : Hp}, DRows Γ H0 F H vs ds as → as.Nodup → Ext F0 H0 F H →
    ∃ F', Ext F0 H0 F' H ∧ Same F F' ∧ (∀ a, a ∉ as → F' a = F a) ∧ RepL Γ F' vs ds
  | _, _, _, F, .nil, _, e => ⟨F, e, Same.refl F, fun _ _ => rfl, .nil⟩
  | _, _, _, F, .cons (t := t) (q := q) (v := v) (xs := xs) a b c d f g r rl s, nd, e => by
    have n1 := List.nodup_cons.mp nd
    have n2 := List.nodup_cons.mp n1.2
    obtain ⟨F', e1, s1, o1, r1⟩ := DRows.freeze s n2.2 e
    have fq : F' q = none := by rw [o1 q n2.1]; exact d
    have ft : F' t = none := by rw [o1 t fun z => n1.1 (List.mem_cons_of_mem _ z)]; exact c
    have sq : Same F' (L2.upd F' q (.lst xs)) := same_new fq
    have ntq : t ≠ q := fun z => n1.1 (z ▸ List.mem_cons_self)
    have ft2 : L2.upd F' q (.lst xs) t = none := by rw [upd_ne ntq]; exact ft
    have st : Same (L2.upd F' q (.lst xs)) (L2.upd (L2.upd F' q (.lst xs)) t (.tup [v, .ref q])) := same_new ft2
    refine ⟨_, (e1.freeze b fq g).freeze a ft2 f, s1.trans (sq.trans st), fun x hx => ?_, ?_⟩
    · rw [upd_ne (fun z => ne_mem hx z.symm), upd_ne (fun z => ne_mem (fun y => hx (List.mem_cons_of_mem _ y)) z.symm), o1 x fun z => hx (List.mem_cons_of_mem _ (List.mem_cons_of_mem _ z))]
    · refine .cons (.tup (.inl ⟨pairs_lst _ _, upd_same⟩) (.cons (r.mono (s1.trans (sq.trans st))) (.cons (.lst ?_ (rl.mono (s1.trans (sq.trans st)))) .nil))) (r1.mono (sq.trans st))
      rw [upd_ne (Ne.symm ntq)]
      exact upd_same
structure EOD (Γ : Gx) (F0 H0 F H : Hp) (i : Nat) (σ : L2.St) (ρ : Ev0) (ds : List D) : Prop where
  eo : EO Γ F0 H0 F H [] σ ρ
  hid : ρ[i]? = some none
  deep : ∃ p vs as, σ[i]? = some (some (.ref p)) ∧ H0 p = none ∧ F p = none ∧ H p = some (.lst vs.reverse) ∧ DRows Γ H0 F H vs ds as ∧ (p :: as).Nodup
theorem EOD.ext {F0 H0 F H F' H' : Hp} {i : Nat} {σ : L2.St} {ρ : Ev0} {ds : List D} (E : EOD Γ F0 H0 F H i σ ρ ds) (e : Ext F H F' H') : EOD Γ F0 H0 F' H' i σ ρ ds := by
  obtain ⟨p, vs, as, h1, h2, h3, h4, h5, h6⟩ := E.deep
  exact ⟨E.eo.extend e, E.hid, p, vs, as, h1, h2, e.free h3 h4, e.h _ _ h4, h5.ext e, h6⟩
/-- seen as if all stood still -/
theorem EOD.view {F0 H0 F H : Hp} {i : Nat} {σ : L2.St} {ρ : Ev0} {ds : List D} (E : EOD Γ F0 H0 F H i σ ρ ds) : ∃ F', Same F F' ∧ EO Γ F0 H0 F' H [] σ (ρ.set i (some (.lst ds.reverse))) ∧ ∃ p, σ[i]? = some (some (.ref p)) ∧ H0 p = none ∧ ∃ F1, Ext F0 H0 F1 H ∧ Same F F1 ∧ F1 p = none ∧ ∃ vs, H p = some (.lst vs) ∧ RepL Γ F1 vs ds.reverse ∧ EO Γ F0 H0 F1 H [] σ ρ := by
  obtain ⟨p, vs, as, h1, h2, h3, h4, h5, h6⟩ := E.deep
  have nd := List.nodup_cons.mp h6
  obtain ⟨F1, e1, s1, o1, r1⟩ := h5.freeze nd.2 E.eo.ext
  have fp : F1 p = none := by rw [o1 p nd.1]; exact h3
  have sp : Same F1 (L2.upd F1 p (.lst vs.reverse)) := same_new fp
  have il : i < ρ.length := by
    cases w : decide (i < ρ.length) with
    | true => exact of_decide_eq_true w
    | false => have := E.hid; rw [List.getElem?_eq_none (by have := of_decide_eq_false w; omega)] at this; cases this
  refine ⟨L2.upd F1 p (.lst vs.reverse), s1.trans sp, ⟨by rw [List.length_set]; exact E.eo.len, e1.freeze h2 fp h4, fun j d hj => ?_, fun j k a d e _ h => by cases h⟩, p, h1, h2, F1, e1, s1, fp, vs.reverse, h4, r1.reverse, ⟨E.eo.len, e1, fun j d hj => ?_, fun j k a d e _ h => by cases h⟩⟩
  · by_cases hji : i = j
    · subst hji
      rw [List.getElem?_set_self il] at hj
      cases hj
      exact ⟨_, h1, .lst upd_same (r1.reverse.mono sp)⟩
    · rw [List.getElem?_set_ne hji] at hj
      obtain ⟨v, k1, k2⟩ := E.eo.slot j d hj
      exact ⟨v, k1, Rep.mono (s1.trans sp) k2⟩
  · obtain ⟨v, k1, k2⟩ := E.eo.slot j d hj
    exact ⟨v, k1, Rep.mono s1 k2⟩
abbrev DG := Ev0 → List D → Option (Ev0 × List D)
def DSv (Γ : Gx) (i : Nat) (t : TS) (g : DG) : Prop := ∀ F0 H0 F H σ ρ ds D, EOD Γ F0 H0 F H i σ ρ ds →
  (match g ρ ds with | some (ρ', ds') => ∀ F' H' σ', Same F F' → EOD Γ F0 H0 F' H' i σ' ρ' ds' → D.nx σ' H' | none => False) → t D σ H
theorem d_some {o : Option (Ev0 × List D)} {P : Ev0 → List D → Prop} (h : match o with | some (ρ', ds') => P ρ' ds' | none => False) : ∃ ρ' ds', o = some (ρ', ds') ∧ P ρ' ds' := by
  cases o with
  | none => exact h.elim
  | some r => exact ⟨r.1, r.2, rfl, h⟩
structure FD {ι : Type} (Γ : Gx) (X : ι → Cx) (i : Nat) (st : Stmt) (g : DG) : Prop where
  ex : ∃ t : TS, (∀ j, PS (X j) st t) ∧ DSv Γ i t g
structure FDs {ι : Type} (Γ : Gx) (X : ι → Cx) (i : Nat) (sts : List Stmt) (g : DG) : Prop where
  ex : ∃ t : TS, (∀ j, PSs (X j) sts t) ∧ DSv Γ i t g
def dNil : DG := fun ρ ds => some (ρ, ds)
def dSeq (g h : DG) : DG := fun ρ ds => (g ρ ds).bind fun r => h r.1 r.2
def dIf (i : Nat) (gc : Ev0 → Res Bool) (g h : DG) : DG := fun ρ ds => match gc (ρ.set i (some (.lst ds.reverse))) with
  | .ok true => g ρ ds
  | .ok false => h ρ ds
  | _ => none
section
variable {ι : Type} {X : ι → Cx} {i : Nat} {g h : DG} {st : Stmt} {sts rest : List Stmt} {c e : Expr} {gc : Ev0 → Res Bool} {ge : Ev0 → Res D} {pos : Pos}
theorem fd_nil : FDs Γ X i [] dNil := ⟨_, fun _ => pss_nil, fun F0 H0 F H σ ρ ds D E hp => hp F H σ (Same.refl F) E⟩
theorem fd_cons (h1 : FD Γ X i st g) (h2 : FDs Γ X i rest h) : FDs Γ X i (st :: rest) (dSeq g h) := by
  obtain ⟨t, p, s1⟩ := h1.ex
  obtain ⟨u, q, s2⟩ := h2.ex
  refine ⟨_, fun j => pss_cons (p j) (q j), fun F0 H0 F H σ ρ ds D E hp => ?_⟩
  refine s1 F0 H0 F H σ ρ ds { D with nx := u D } E ?_
  unfold dSeq at hp
  cases z : g ρ ds with
  | none => rw [z] at hp; exact hp
  | some r =>
    rw [z] at hp
    intro F1 H1 σ1 sF E1
    refine s2 F0 H0 F1 H1 σ1 r.1 r.2 D E1 ?_
    have hp : (match h r.1 r.2 with | some (ρ', ds') => ∀ F' H' σ', Same F F' → EOD Γ F0 H0 F' H' i σ' ρ' ds' → D.nx σ' H' | none => False) := hp
    cases y : h r.1 r.2 with
    | none => rw [y] at hp; exact hp
    | some r2 =>
      rw [y] at hp
      exact fun F2 H2 σ2 s E2 => hp F2 H2 σ2 (sF.trans s) E2
theorem fd_one (h1 : FD Γ X i st g) : FDs Γ X i [st] g := by
  obtain ⟨t, p, s1⟩ := h1.ex
  exact ⟨_, fun j => pss_one (p j), s1⟩
theorem fd_if {a b : List Stmt} (hc : FT Γ X (fun _ _ _ _ => False) [] c gc) (ha : FDs Γ X i a g) (hb : FDs Γ X i b h) : FD Γ X i (.If c a b pos) (dIf i gc g h) := by
  obtain ⟨t, p, ev⟩ := hc.ex
  obtain ⟨ta, pa, sa⟩ := ha.ex
  obtain ⟨tb, pb, sb⟩ := hb.ex
  refine ⟨_, fun j => ps_if (p j) (pa j) (pb j), fun F0 H0 F H σ ρ ds D E hp => ?_⟩
  show t σ H _
  obtain ⟨F', sF, E', _⟩ := E.view
  refine ev F0 H0 F' H σ _ _ E' ?_
  unfold dIf at hp
  cases z : gc (ρ.set i (some (.lst ds.reverse))) with
  | no => rw [z] at hp; exact hp.elim
  | ex x => rw [z] at hp; exact hp.elim
  | ok bv =>
    rw [z] at hp
    intro F1 H1 b1 e1 rb
    have rb : b1 = bv := rb
    subst rb
    have E1 : EOD Γ F0 H0 F H1 i σ ρ ds := E.ext ⟨Same.refl F, e1.h, E.eo.same.trans e1.h, fun a o w => .inl ⟨o, w⟩⟩
    cases b1 with
    | true => exact sa F0 H0 F H1 σ ρ ds D E1 hp
    | false => exact sb F0 H0 F H1 σ ρ ds D E1 hp
/-- a slot set, by what is seen -/
def dSetS (i n : Nat) (ge : Ev0 → Res D) : DG := fun ρ ds => match ge (ρ.set i (some (.lst ds.reverse))) with
  | .ok d => if scal d = true then some (ρ.set n (some d), ds) else none
  | _ => none
def dSet (n : Nat) (ge : Ev0 → Res D) : DG := fun ρ ds => match ge ρ with
  | .ok d => some (ρ.set n (some d), ds)
  | _ => none
theorem EOD.set {F0 H0 F H : Hp} {n : Nat} {σ : L2.St} {ρ : Ev0} {ds : List D} {v : V} {d : D} (E : EOD Γ F0 H0 F H i σ ρ ds) (hn : n ≠ i) (r : Rep Γ F v d) : EOD Γ F0 H0 F H i (σ.set n (some v)) (ρ.set n (some d)) ds := by
  obtain ⟨p, vs, as, h1, h2, h3, h4, h5, h6⟩ := E.deep
  refine ⟨E.eo.set n r, by rw [List.getElem?_set_ne hn]; exact E.hid, p, vs, as, ?_, h2, h3, h4, h5, h6⟩
  rw [List.getElem?_set_ne hn]
  exact h1
theorem fd_setS (A : Amb Γ X) (n : Nat) {x : Str} {p2 : Pos} (hni : n ≠ i) (hi : ∀ j, (X j).N[n]? = some x) (hx : ∀ j, Loc (X j).env.scope x) (h : FE Γ X (fun _ _ _ _ => False) [] e .sh ge) (hs : ∀ j, swapsWith e (some (.Name x p2)) pos.line (X j).env = pure false)
    (hf : ∀ j, (X j).fn x = true ∨ (X j).env.scope.names.lookup x = some .local) : FD Γ X i (.Assign [.Name x p2] e pos) (dSetS i n ge) := by
  obtain ⟨t, p, ev⟩ := h.ex
  refine ⟨_, fun j => ps_set (A.nd j) (hi j) (hx j) (p j) (hs j) (hf j), fun F0 H0 F H σ ρ ds D E hp => ?_⟩
  show t σ H _
  obtain ⟨F', sF, E', _⟩ := E.view
  refine ev F0 H0 F' H σ _ _ E' ?_
  unfold dSetS at hp
  cases z : ge (ρ.set i (some (.lst ds.reverse))) with
  | no => rw [z] at hp; exact hp.elim
  | ex x => rw [z] at hp; exact hp.elim
  | ok d =>
    rw [z] at hp
    dsimp only at hp
    by_cases hsc : scal d = true
    · rw [if_pos hsc] at hp
      intro F1 H1 v e1 rv
      have rv : Rep Γ F1 v d := rv
      have E1 : EOD Γ F0 H0 F H1 i σ ρ ds := E.ext ⟨Same.refl F, e1.h, E.eo.same.trans e1.h, fun a o w => .inl ⟨o, w⟩⟩
      exact hp F H1 _ (Same.refl F) (E1.set hni (rv.scal hsc))
    · rw [if_neg hsc] at hp; exact hp.elim
theorem fd_set (A : Amb Γ X) (n : Nat) {x : Str} {p2 : Pos} (hni : n ≠ i) (hi : ∀ j, (X j).N[n]? = some x) (hx : ∀ j, Loc (X j).env.scope x) (h : FE Γ X (fun _ _ _ _ => False) [] e .sh ge) (hs : ∀ j, swapsWith e (some (.Name x p2)) pos.line (X j).env = pure false)
    (hf : ∀ j, (X j).fn x = true ∨ (X j).env.scope.names.lookup x = some .local) : FD Γ X i (.Assign [.Name x p2] e pos) (dSet n ge) := by
  obtain ⟨t, p, ev⟩ := h.ex
  refine ⟨_, fun j => ps_set (A.nd j) (hi j) (hx j) (p j) (hs j) (hf j), fun F0 H0 F H σ ρ ds D E hp => ?_⟩
  show t σ H _
  refine ev F0 H0 F H σ _ _ E.eo ?_
  unfold dSet at hp
  cases z : ge ρ with
  | no => rw [z] at hp; exact hp.elim
  | ex x => rw [z] at hp; exact hp.elim
  | ok d =>
    rw [z] at hp
    intro F1 H1 v e1 rv
    have rv : Rep Γ F1 v d := rv
    exact hp F1 H1 _ e1.f ((E.ext e1).set hni rv)
/-- rows[-1][1] -/
theorem top_ev {F0 H0 F H : Hp} {σ : L2.St} {ρ : Ev0} {d : D} {es : List D} {r : List D} {t1 t2 : TE} {g1' g2' : Ev0 → Res D} {Q : V → Hp → Prop} (h1 : EvG Γ (fun _ _ _ _ => False) [] t1 (RE Γ .sh) g1') (hg1 : g1' ρ = .ok (.int (-1))) (h2 : EvG Γ (fun _ _ _ _ => False) [] t2 (RE Γ .sh) g2') (hg2 : g2' ρ = .ok (.int 1))
    (E : EOD Γ F0 H0 F H i σ ρ (.tup [d, .lst es] :: r))
    (h : ∀ F1 H1 q xs p t v vs as, Ext F H F1 H1 → EO Γ F0 H0 F1 H1 [] σ ρ → σ[i]? = some (some (.ref p)) → H0 p = none → F1 p = none → H1 p = some (.lst (V.ref t :: vs).reverse) → H0 t = none → H0 q = none → F1 t = none → F1 q = none → H1 t = some (.tup [v, .ref q]) → H1 q = some (.lst xs) → Rep Γ F1 v d → RepL Γ F1 xs es → DRows Γ H0 F1 H1 vs r as → (p :: t :: q :: as).Nodup → Q (.ref q) H1) :
    tOp (rIx Γ.K) (tOp (rIx Γ.K) (tVar i) t1) t2 σ H Q := by
  obtain ⟨p, vs, as, k1, k2, k3, k4, k5, k6⟩ := E.deep
  cases k5 with
  | @cons t q v _ xs _ vs' _ as' a b c f g j rv rl s =>
    refine ⟨_, k1, ?_⟩
    refine h1 F0 H0 F H σ ρ _ E.eo ?_
    rw [hg1]
    intro F1 H1 w1 e1 r1
    have r1 : Rep Γ F1 w1 (.int (-1)) := r1
    cases r1
    have hp1 := e1.h _ _ k4
    have ht1 := e1.h _ _ g
    refine .inl ⟨p, _, -1, .ref t, rfl, rfl, SqL.of hp1, by rw [List.reverse_cons]; exact atI_end _ _, ?_⟩
    have E1 := E.ext e1
    refine h2 F0 H0 F1 H1 σ ρ _ E1.eo ?_
    rw [hg2]
    intro F2 H2 w2 e2 r2
    have r2 : Rep Γ F2 w2 (.int 1) := r2
    cases r2
    have e12 := e1.trans e2
    have ht2 := e2.h _ _ ht1
    refine .inr (.inl ⟨t, _, 1, .ref q, rfl, rfl, .inl (.inl ht2), rfl, ?_⟩)
    exact h F2 H2 q xs p t v vs' as' e12 (E.eo.extend e12) k1 k2 (e12.free k3 k4) (e12.h _ _ k4) a b (e12.free c g) (e12.free f j) ht2 (e12.h _ _ j) (rv.mono e12.f) (rl.mono e12.f) (s.ext e12) k6
def dPop (n : Nat) : DG := fun ρ ds => match ds with
  | .tup [d, .lst es] :: r => match es.getLast? with
    | some x => some (ρ.set n (some x), .tup [d, .lst es.dropLast] :: r)
    | none => none
  | _ => none
/-- an own object of no slot is written -/
theorem EO.wr {F0 H0 F H : Hp} {σ : L2.St} {ρ : Ev0} {q : Addr} {o : HO} (E : EO Γ F0 H0 F H [] σ ρ) (h0 : H0 q = none) (hf : F q = none) : EO Γ F0 H0 F (L2.upd H q o) [] σ ρ := E.upd0 h0 hf
theorem fd_pop (A : Amb Γ X) (n : Nat) {x y : Str} {p2 p1 ps1 ps2 ap cp : Pos} {a b : Expr} {ga gb : Ev0 → Res D} (hni : n ≠ i) (hi : ∀ j, (X j).N[n]? = some y) (hx : ∀ j, Loc (X j).env.scope y) (hN : ∀ j, (X j).N[i]? = some x) (hv : ∀ j, Vis (X j).env.scope x)
    (ha : FE Γ X (fun _ _ _ _ => False) [] a .sh ga) (hga : ∀ ρ, ga ρ = .ok (.int (-1))) (hb : FE Γ X (fun _ _ _ _ => False) [] b .sh gb) (hgb : ∀ ρ, gb ρ = .ok (.int 1)) (pa : PlainIx a) (pb : PlainIx b)
    (hbase : ∀ j, attributeBase (.Subscript (.Subscript (.Name x p1) a ps1) b ps2) "pop" (X j).env (eval (.Subscript (.Subscript (.Name x p1) a ps1) b ps2) (X j).env) = eval (.Subscript (.Subscript (.Name x p1) a ps1) b ps2) (X j).env) (hline : (ap.endLine == cp.line) = true)
    (hs : ∀ j, swapsWith (.Call (.Attribute (.Subscript (.Subscript (.Name x p1) a ps1) b ps2) "pop" ap) [] [] cp) (some (.Name y p2)) pos.line (X j).env = pure false) (hf : ∀ j, (X j).fn y = true ∨ (X j).env.scope.names.lookup y = some .local)
    (hd : (x == ("__debug__" : Str)) = false := by decide) (hcd : (x == ("__classdict__" : Str)) = false := by decide) :
    FD Γ X i (.Assign [.Name y p2] (.Call (.Attribute (.Subscript (.Subscript (.Name x p1) a ps1) b ps2) "pop" ap) [] [] cp) pos) (dPop n) := by
  obtain ⟨t1, q1, v1⟩ := ha.ex
  obtain ⟨t2, q2, v2⟩ := hb.ex
  refine ⟨fun D σ H => tOp (rIx Γ.K) (tOp (rIx Γ.K) (tVar i) t1) t2 σ H fun x H1 => tyV Γ.K "list" x H1 ∧ rPop x [] H1 fun v H3 => D.nx (σ.set n (some v)) H3, fun j => ?_, fun F0 H0 F H σ ρ ds D E hp => ?_⟩
  · have := ps_set (pos := pos) (pos' := p2) (A.nd j) (hi j) (hx j) (pe_bm0 PySem.F.plainAttrs_list PySem.F.slot_list_pop PySem.F.type_list_pop mt_pop (pe_ix (pos := ps2) ix_seq (pe_ix (pos := ps1) ix_seq (pe_var (pos := p1) (hN j) (hv j) hd hcd) (q1 j) pa) (q2 j) pb) (hbase j) hline) (hs j) (hf j)
    rw [A.K j] at this
    exact this
  · obtain ⟨ρ', ds', hg, hp⟩ := d_some hp
    unfold dPop at hg
    split at hg
    · rename_i d es r
      split at hg
      · rename_i x hx
        cases hg
        refine top_ev v1 (hga ρ) v2 (hgb ρ) E fun F1 H1 q xs p t v vs as ex E1 k1 k2 k3 k4 k5 k6 k7 k8 k9 k10 rv rl s nd => ?_
        refine ⟨.inl ⟨rfl, xs, SqL.of k10⟩, ?_⟩
        have hle : xs.length = es.length := rl.length
        have hx' : es[es.length - 1]? = some x := by rw [← List.getLast?_eq_getElem?]; exact hx
        obtain ⟨w, hw, rw'⟩ := rl.get hx'
        refine ⟨q, xs, w, rfl, rfl, k10, by rw [hle]; exact hw, ?_⟩
        have n1 := List.nodup_cons.mp nd
        have n2 := List.nodup_cons.mp n1.2
        have n3 := List.nodup_cons.mp n2.2
        have npq : p ≠ q := fun z => n1.1 (by rw [z]; simp)
        have ntq : t ≠ q := fun z => n2.1 (by rw [z]; simp)
        refine hp F1 _ _ ex.f (EOD.set ⟨E1.wr k6 k8, E.hid, p, _, _, k1, k2, k3, by rw [upd_ne npq]; exact k4, .cons k5 k6 k7 k8 (by rw [upd_ne ntq]; exact k9) upd_same rv rl.dropLast (s.upd n3.1), nd⟩ hni rw')
      · cases hg
    · cases hg
def dApp (ge : Ev0 → Res D) : DG := fun ρ ds => match ge ρ with
  | .ok x => match ds with
    | .tup [d, .lst es] :: r => if es.length < sizeLine then some (ρ, .tup [d, .lst (es ++ [x])] :: r) else none
    | _ => none
  | _ => none
/-- rows[-1][1].append(e) -/
structure ATx {ι : Type} (X : ι → Cx) (o : Expr) (ap cp pos : Pos) (e : Expr) : Prop where
  hbase : ∀ j, attributeBase o "append" (X j).env (eval o (X j).env) = eval o (X j).env
  hfew : ∀ j, ((backTo cp (starEach [e] (X j).env)).all (fun x => !x.1) && (backToKw cp (keywordEach [] (X j).env)).all (fun x => x.1.isSome) && decide (([e] : List Expr).length + ([] : List Keyword).length + (if ([] : List Keyword).isEmpty then 0 else 1) < 30)) = true
  hline : (ap.endLine == cp.line) = true
  he : ∀ j, starEach [e] (X j).env = (false, eval e (X j).env) :: starEach [] (X j).env
  hpl : ∀ j, (backTo cp (starEach [] (X j).env)).any (·.1) = false
  hs : ∀ j, swapsWith (.Call (.Attribute o "append" ap) [e] [] cp) none pos.line (X j).env = pure false
theorem fd_app (A : Amb Γ X) {x : Str} {p1 ps1 ps2 ap cp : Pos} {a b : Expr} {ga gb : Ev0 → Res D} (hN : ∀ j, (X j).N[i]? = some x) (hv : ∀ j, Vis (X j).env.scope x)
    (ha : FE Γ X (fun _ _ _ _ => False) [] a .sh ga) (hga : ∀ ρ, ga ρ = .ok (.int (-1))) (hb : FE Γ X (fun _ _ _ _ => False) [] b .sh gb) (hgb : ∀ ρ, gb ρ = .ok (.int 1)) (pa : PlainIx a) (pb : PlainIx b)
    (h : FE Γ X (fun _ _ _ _ => False) [] e .sh ge) (T : ATx X (.Subscript (.Subscript (.Name x p1) a ps1) b ps2) ap cp pos e)
    (hd : (x == ("__debug__" : Str)) = false := by decide) (hcd : (x == ("__classdict__" : Str)) = false := by decide) :
    FD Γ X i (.Expr (.Call (.Attribute (.Subscript (.Subscript (.Name x p1) a ps1) b ps2) "append" ap) [e] [] cp) pos) (dApp ge) := by
  obtain ⟨t1, q1, v1⟩ := ha.ex
  obtain ⟨t2, q2, v2⟩ := hb.ex
  obtain ⟨te, qe, ve⟩ := h.ex
  refine ⟨fun D σ H => tOp (rIx Γ.K) (tOp (rIx Γ.K) (tVar i) t1) t2 σ H fun x H1 => tyV Γ.K "list" x H1 ∧ tCons te tNil σ H1 fun xs H2 => rAppend x xs H2 fun _ H3 => D.nx σ H3, fun j => ?_, fun F0 H0 F H σ ρ ds D E hp => ?_⟩
  · have := ps_expr (pos := pos) (pe_bm PySem.F.plainAttrs_list PySem.F.slot_list_append PySem.F.type_list_append mt_append (pe_ix (pos := ps2) ix_seq (pe_ix (pos := ps1) ix_seq (pe_var (pos := p1) (hN j) (hv j) hd hcd) (q1 j) pa) (q2 j) pb) (pa_one (qe j) (T.he j)) (T.hbase j) (T.hfew j) T.hline (T.he j) (T.hpl j)) (T.hs j)
    rw [A.K j] at this
    exact this
  · obtain ⟨ρ', ds', hg, hp⟩ := d_some hp
    unfold dApp at hg
    split at hg
    · rename_i y hy
      split at hg
      · rename_i d es r
        split at hg
        · rename_i hl
          cases hg
          refine top_ev v1 (hga ρ) v2 (hgb ρ) E fun F1 H1 q xs p t v vs as ex E1 k1 k2 k3 k4 k5 k6 k7 k8 k9 k10 rv rl s nd => ?_
          refine ⟨.inl ⟨rfl, xs, SqL.of k10⟩, ?_⟩
          show te σ H1 _
          refine ve F0 H0 F1 H1 σ ρ _ E1 ?_
          rw [hy]
          intro F2 H2 w e2 rw'
          have rw' : Rep Γ F2 w y := rw'
          have hle : xs.length = es.length := rl.length
          refine ⟨q, xs, w, rfl, rfl, e2.h _ _ k10, by rw [hle]; exact hl, ?_⟩
          have n1 := List.nodup_cons.mp nd
          have n2 := List.nodup_cons.mp n1.2
          have n3 := List.nodup_cons.mp n2.2
          have npq : p ≠ q := fun z => n1.1 (by rw [z]; simp)
          have ntq : t ≠ q := fun z => n2.1 (by rw [z]; simp)
          refine hp F2 _ _ (ex.f.trans e2.f) ⟨(E1.extend e2).wr k6 (e2.free k8 k10), E.hid, p, _, _, k1, k2, e2.free k3 k4, by rw [upd_ne npq]; exact e2.h _ _ k4, .cons k5 k6 (e2.free k7 k9) (e2.free k8 k10) (by rw [upd_ne ntq]; exact e2.h _ _ k9) upd_same (rv.mono e2.f) ((rl.mono e2.f).append (.cons rw' .nil)) ((s.ext e2).upd n3.1), nd⟩
        · cases hg
      · cases hg
    · cases hg
/-- rows.append((e1, [e2])) -/
def dPush (g1' g2' : Ev0 → Res D) : DG := fun ρ ds => match g1' ρ with
  | .ok d1 => match g2' ρ with
    | .ok d2 => if ds.length < sizeLine then some (ρ, .tup [d1, .lst [d2]] :: ds) else none
    | _ => none
  | _ => none
theorem fd_push (A : Amb Γ X) {x : Str} {p1 ap cp tp lp : Pos} {kk : Nat} {e1 e2 : Expr} {g1' g2' : Ev0 → Res D} (hN : ∀ j, (X j).N[i]? = some x) (hv : ∀ j, Vis (X j).env.scope x)
    (h1 : FE Γ X (fun _ _ _ _ => False) [] e1 .sh g1') (h2 : FE Γ X (fun _ _ _ _ => False) [] e2 .sh g2') (hs1 : ∀ j, starEach [e1, .List [e2] lp] (X j).env = (false, eval e1 (X j).env) :: starEach [.List [e2] lp] (X j).env)
    (hs2 : ∀ j, starEach [.List [e2] lp] (X j).env = (false, eval (.List [e2] lp) (X j).env) :: starEach [] (X j).env) (hs3 : ∀ j, starEach [e2] (X j).env = (false, eval e2 (X j).env) :: starEach [] (X j).env)
    (T : ATx X (.Name x p1) ap cp pos (.Tuple [e1, .List [e2] lp] kk tp)) (hd : (x == ("__debug__" : Str)) = false := by decide) (hcd : (x == ("__classdict__" : Str)) = false := by decide) :
    FD Γ X i (.Expr (.Call (.Attribute (.Name x p1) "append" ap) [.Tuple [e1, .List [e2] lp] kk tp] [] cp) pos) (dPush g1' g2') := by
  obtain ⟨t1, q1, v1⟩ := h1.ex
  obtain ⟨t2, q2, v2⟩ := h2.ex
  refine ⟨fun D σ H => tVar i σ H fun x H1 => tyV Γ.K "list" x H1 ∧ tCons (tTup (tCons t1 (tCons (tLst (tCons t2 tNil)) tNil))) tNil σ H1 fun xs H2 => rAppend x xs H2 fun _ H3 => D.nx σ H3, fun j => ?_, fun F0 H0 F H σ ρ ds D E hp => ?_⟩
  · have := ps_expr (pos := pos) (pe_bm PySem.F.plainAttrs_list PySem.F.slot_list_append PySem.F.type_list_append mt_append (pe_var (pos := p1) (hN j) (hv j) hd hcd) (pa_one (pe_tup (x1 := kk) (pos := tp) (pa_cons (q1 j) (pa_cons (pe_lst (pos := lp) (pa_cons (q2 j) pa_nil (hs3 j))) pa_nil (hs2 j)) (hs1 j))) (T.he j)) (T.hbase j) (T.hfew j) T.hline (T.he j) (T.hpl j)) (T.hs j)
    rw [A.K j] at this
    exact this
  · obtain ⟨ρ', ds', hg, hp⟩ := d_some hp
    unfold dPush at hg
    split at hg
    · rename_i d1 hd1
      split at hg
      · rename_i d2 hd2
        split at hg
        · rename_i hl
          cases hg
          obtain ⟨p, vs, as, k1, k2, k3, k4, k5, k6⟩ := E.deep
          refine ⟨_, k1, .inl ⟨rfl, _, SqL.of k4⟩, ?_⟩
          show t1 σ H _
          refine v1 F0 H0 F H σ ρ _ E.eo ?_
          rw [hd1]
          intro F1 H1 w1 e1' r1
          have r1 : Rep Γ F1 w1 d1 := r1
          show t2 σ H1 _
          refine v2 F0 H0 F1 H1 σ ρ _ (E.eo.extend e1') ?_
          rw [hd2]
          intro F2 H2 w2 e2' r2
          have r2 : Rep Γ F2 w2 d2 := r2
          have E2 := (E.ext e1').ext e2'
          obtain ⟨p', vs', as', m1, m2, m3, m4, m5, m6⟩ := E2.deep
          rw [k1] at m1
          cases m1
          refine ⟨by show 1 ≤ _; rw [sizeL]; decide, fun q hq => ⟨by show 2 ≤ _; rw [sizeL]; decide, fun t ht => ?_⟩⟩
          have ntq : t ≠ q := fun z => by rw [z, upd_same] at ht; cases ht
          have htH : H2 t = none := by rw [upd_ne ntq] at ht; exact ht
          have eo2 := E2.eo
          have h0q : H0 q = none := by
            cases w : H0 q with
            | none => rfl
            | some u => rw [eo2.ext.h _ _ w] at hq; cases hq
          have h0t : H0 t = none := by
            cases w : H0 t with
            | none => rfl
            | some u => rw [eo2.ext.h _ _ w] at htH; cases htH
          have fq : F2 q = none := eo2.same.free hq
          have ft : F2 t = none := eo2.same.free htH
          have pH : H2 p = some (.lst vs'.reverse) := m4
          have npq : p ≠ q := fun z => by rw [z, hq] at pH; cases pH
          have npt : p ≠ t := fun z => by rw [z, htH] at pH; cases pH
          have qas : q ∉ as' := fun z => by obtain ⟨o, h⟩ := m5.there q z; rw [hq] at h; cases h
          have tas : t ∉ as' := fun z => by obtain ⟨o, h⟩ := m5.there t z; rw [htH] at h; cases h
          have pas := (List.nodup_cons.mp m6).1
          have E5 := ((eo2.wr (o := .lst [w2]) h0q fq).wr (o := .tup [w1, .ref q]) h0t ft).wr (o := .lst (vs'.reverse ++ [.ref t])) m2 m3
          have Hp5 : (L2.upd (L2.upd H2 q (.lst [w2])) t (.tup [w1, .ref q])) p = some (.lst vs'.reverse) := by rw [upd_ne npt, upd_ne npq]; exact m4
          refine ⟨p, vs'.reverse, .ref t, rfl, rfl, Hp5, by rw [List.length_reverse, m5.len]; exact hl, ?_⟩
          refine hp F2 _ _ (e1'.f.trans e2'.f) ⟨E5, E.hid, p, .ref t :: vs', t :: q :: as', k1, m2, m3, by rw [upd_same, List.reverse_cons], .cons h0t h0q ft fq (by rw [upd_ne (Ne.symm npt), upd_same]) (by rw [upd_ne (Ne.symm npq), upd_ne (Ne.symm ntq), upd_same]) (r1.mono e2'.f) (.cons r2 .nil) (((m5.upd qas).upd tas).upd pas), ?_⟩
          have m6' := List.nodup_cons.mp m6
          rw [List.nodup_cons, List.nodup_cons, List.nodup_cons]
          refine ⟨fun z => ?_, fun z => ?_, qas, m6'.2⟩
          · rcases List.mem_cons.mp z with z | z
            · exact npt z
            · rcases List.mem_cons.mp z with z | z
              · exact npq z
              · exact m6'.1 z
          · rcases List.mem_cons.mp z with z | z
            · exact ntq z
            · exact tas z
        · cases hg
      · cases hg
    · cases hg
/-- .. the first part by what is seen -/
def dPushS (i : Nat) (g1' g2' : Ev0 → Res D) : DG := fun ρ ds => match g1' (ρ.set i (some (.lst ds.reverse))) with
  | .ok d1 => match g2' ρ with
    | .ok d2 => if ds.length < sizeLine ∧ scal d1 = true then some (ρ, .tup [d1, .lst [d2]] :: ds) else none
    | _ => none
  | _ => none
theorem fd_pushS (A : Amb Γ X) {x : Str} {p1 ap cp tp lp : Pos} {kk : Nat} {e1 e2 : Expr} {g1' g2' : Ev0 → Res D} (hN : ∀ j, (X j).N[i]? = some x) (hv : ∀ j, Vis (X j).env.scope x)
    (h1 : FE Γ X (fun _ _ _ _ => False) [] e1 .sh g1') (h2 : FE Γ X (fun _ _ _ _ => False) [] e2 .sh g2') (hs1 : ∀ j, starEach [e1, .List [e2] lp] (X j).env = (false, eval e1 (X j).env) :: starEach [.List [e2] lp] (X j).env)
    (hs2 : ∀ j, starEach [.List [e2] lp] (X j).env = (false, eval (.List [e2] lp) (X j).env) :: starEach [] (X j).env) (hs3 : ∀ j, starEach [e2] (X j).env = (false, eval e2 (X j).env) :: starEach [] (X j).env)
    (T : ATx X (.Name x p1) ap cp pos (.Tuple [e1, .List [e2] lp] kk tp)) (hd : (x == ("__debug__" : Str)) = false := by decide) (hcd : (x == ("__classdict__" : Str)) = false := by decide) :
    FD Γ X i (.Expr (.Call (.Attribute (.Name x p1) "append" ap) [.Tuple [e1, .List [e2] lp] kk tp] [] cp) pos) (dPushS i g1' g2') := by
  obtain ⟨t1, q1, v1⟩ := h1.ex
  obtain ⟨t2, q2, v2⟩ := h2.ex
  refine ⟨fun D σ H => tVar i σ H fun x H1 => tyV Γ.K "list" x H1 ∧ tCons (tTup (tCons t1 (tCons (tLst (tCons t2 tNil)) tNil))) tNil σ H1 fun xs H2 => rAppend x xs H2 fun _ H3 => D.nx σ H3, fun j => ?_, fun F0 H0 F H σ ρ ds D E hp => ?_⟩
  · have := ps_expr (pos := pos) (pe_bm PySem.F.plainAttrs_list PySem.F.slot_list_append PySem.F.type_list_append mt_append (pe_var (pos := p1) (hN j) (hv j) hd hcd) (pa_one (pe_tup (x1 := kk) (pos := tp) (pa_cons (q1 j) (pa_cons (pe_lst (pos := lp) (pa_cons (q2 j) pa_nil (hs3 j))) pa_nil (hs2 j)) (hs1 j))) (T.he j)) (T.hbase j) (T.hfew j) T.hline (T.he j) (T.hpl j)) (T.hs j)
    rw [A.K j] at this
    exact this
  · obtain ⟨ρ', ds', hg, hp⟩ := d_some hp
    unfold dPushS at hg
    split at hg
    · rename_i d1 hd1
      split at hg
      · rename_i d2 hd2
        split at hg
        · rename_i hl
          obtain ⟨hl, hsc⟩ := hl
          cases hg
          obtain ⟨p, vs, as, k1, k2, k3, k4, k5, k6⟩ := E.deep
          refine ⟨_, k1, .inl ⟨rfl, _, SqL.of k4⟩, ?_⟩
          show t1 σ H _
          obtain ⟨Fv, sFv, Ev, _⟩ := E.view
          refine v1 F0 H0 Fv H σ _ _ Ev ?_
          rw [hd1]
          intro F1x H1 w1 e1x r1x
          have r1x : Rep Γ F1x w1 d1 := r1x
          have r1 : Rep Γ F w1 d1 := r1x.scal hsc
          have e1' : Ext F H F H1 := ⟨Same.refl F, e1x.h, E.eo.same.trans e1x.h, fun a o w => .inl ⟨o, w⟩⟩
          show t2 σ H1 _
          refine v2 F0 H0 F H1 σ ρ _ (E.eo.extend e1') ?_
          rw [hd2]
          intro F2 H2 w2 e2' r2
          have r2 : Rep Γ F2 w2 d2 := r2
          have E2 := (E.ext e1').ext e2'
          obtain ⟨p', vs', as', m1, m2, m3, m4, m5, m6⟩ := E2.deep
          rw [k1] at m1
          cases m1
          refine ⟨by show 1 ≤ _; rw [sizeL]; decide, fun q hq => ⟨by show 2 ≤ _; rw [sizeL]; decide, fun t ht => ?_⟩⟩
          have ntq : t ≠ q := fun z => by rw [z, upd_same] at ht; cases ht
          have htH : H2 t = none := by rw [upd_ne ntq] at ht; exact ht
          have eo2 := E2.eo
          have h0q : H0 q = none := by
            cases w : H0 q with
            | none => rfl
            | some u => rw [eo2.ext.h _ _ w] at hq; cases hq
          have h0t : H0 t = none := by
            cases w : H0 t with
            | none => rfl
            | some u => rw [eo2.ext.h _ _ w] at htH; cases htH
          have fq : F2 q = none := eo2.same.free hq
          have ft : F2 t = none := eo2.same.free htH
          have pH : H2 p = some (.lst vs'.reverse) := m4
          have npq : p ≠ q := fun z => by rw [z, hq] at pH; cases pH
          have npt : p ≠ t := fun z => by rw [z, htH] at pH; cases pH
          have qas : q ∉ as' := fun z => by obtain ⟨o, h⟩ := m5.there q z; rw [hq] at h; cases h
          have tas : t ∉ as' := fun z => by obtain ⟨o, h⟩ := m5.there t z; rw [htH] at h; cases h
          have pas := (List.nodup_cons.mp m6).1
          have E5 := ((eo2.wr (o := .lst [w2]) h0q fq).wr (o := .tup [w1, .ref q]) h0t ft).wr (o := .lst (vs'.reverse ++ [.ref t])) m2 m3
          have Hp5 : (L2.upd (L2.upd H2 q (.lst [w2])) t (.tup [w1, .ref q])) p = some (.lst vs'.reverse) := by rw [upd_ne npt, upd_ne npq]; exact m4
          refine ⟨p, vs'.reverse, .ref t, rfl, rfl, Hp5, by rw [List.length_reverse, m5.len]; exact hl, ?_⟩
          refine hp F2 _ _ (e1'.f.trans e2'.f) ⟨E5, E.hid, p, .ref t :: vs', t :: q :: as', k1, m2, m3, by rw [upd_same, List.reverse_cons], .cons h0t h0q ft fq (by rw [upd_ne (Ne.symm npt), upd_same]) (by rw [upd_ne (Ne.symm npq), upd_ne (Ne.symm ntq), upd_same]) (r1.mono e2'.f) (.cons r2 .nil) (((m5.upd qas).upd tas).upd pas), ?_⟩
          have m6' := List.nodup_cons.mp m6
          rw [List.nodup_cons, List.nodup_cons, List.nodup_cons]
          refine ⟨fun z => ?_, fun z => ?_, qas, m6'.2⟩
          · rcases List.mem_cons.mp z with z | z
            · exact npt z
            · rcases List.mem_cons.mp z with z | z
              · exact npq z
              · exact m6'.1 z
          · rcases List.mem_cons.mp z with z | z
            · exact ntq z
            · exact tas z
        · cases hg
      · cases hg
    · cases hg
end
def forD (i : Nat) (b : D → Ev0 → Res Ev0) (gd : DG) : List D → Ev0 → List D → Option (Ev0 × List D)
  | [], ρ, ds => some (ρ, ds)
  | x :: xs, ρ, ds => match b x ρ with
    | .ok ρ1 => match ρ1[i]? with
      | some none => match gd ρ1 ds with
        | some (ρ2, ds2) => forD i b gd xs ρ2 ds2
        | none => none
      | _ => none
    | _ => none
def oDeep (i : Nat) (gi : Ev0 → Res (List D)) (b : D → Ev0 → Res Ev0) (gd : DG) : Ev0 → Out := fun ρ => match ρ[i]? with
  | some (some (.lst [])) => rOut (gi ρ) fun xs => match forD i b gd xs (ρ.set i none) [] with
    | some (ρ', ds) => .nx (ρ'.set i (some (.lst ds.reverse)))
    | none => .no
  | _ => .no
theorem fs_deep {ι : Type} {X : ι → Cx} {W : WX} {kr : Kd} {pos : Pos} (A : Amb Γ X) (i : Nat) {tg iter : Expr} {sts : List Stmt} {is bk ct : List Nat} {gi : Ev0 → Res (List D)} {b : D → Ev0 → Res Ev0} {gd : DG}
    (hpo : ∀ i, PassesOwn (model (X i).prog (X i).w) (X i).A (X i).env (X i).xe) (hni : is.contains i = false) (hi : FI Γ X W [i] tg iter gi) (hg : FG Γ X [] is tg b) (hb : FDs Γ X i sts gd) (hs : ∀ i x, foldedSetIterable iter (X i).env x = pure x) :
    FS Γ X W [i] ⟨[i], bk, ct⟩ kr (.For tg iter sts [] pos) (oDeep i gi b gd) := by
  obtain ⟨wi, pi, ei⟩ := hi.ex
  obtain ⟨g, pg, eg⟩ := hg.ex
  obtain ⟨tb, pb, eb⟩ := hb.ex
  refine ⟨_, fun i => ps_for (hpo i) (A.calm i) (pi i) (pg i) (pb i) (hs i), fun F0 H0 F H σ ρ D E hp => ?_⟩
  show wi σ H _
  unfold oDeep at hp
  split at hp
  case h_2 => exact hp.elim
  rename_i hρ
  refine EvG.out (m := ⟨[i], bk, ct⟩) ei E hp fun xs F1 H1 J e1 E1 rI hp1 => ?_
  obtain ⟨p, o, hσ, h0p, hfp, hHp, hh⟩ := E1.own (by simp) hρ
  cases hh with
  | @lst vs0 _ r0 =>
    have hv0 : vs0 = [] := by cases r0; rfl
    subst hv0
    generalize ho : forD i b gd xs (ρ.set i none) [] = out at hp1
    have il : i < ρ.length := by
      cases w : decide (i < ρ.length) with
      | true => exact of_decide_eq_true w
      | false => rw [List.getElem?_eq_none (by have := of_decide_eq_false w; omega)] at hρ; cases hρ
    refine ⟨fun n c σ' H' => c = xs.length - n ∧ n ≤ xs.length ∧ ∃ F' ρ' ds, EOD Γ F0 H0 F' H' i σ' ρ' ds ∧ Same F1 F' ∧ forD i b gd (xs.drop n) ρ' ds = out,
      ⟨xs.length, by simp, Nat.zero_le _, F1, ρ.set i none, [], ⟨E1.drop, by rw [List.getElem?_set_self il], p, [], [], hσ, h0p, hfp, hHp, .nil, by simp⟩, Same.refl _, ho⟩, ?_⟩
    rintro n c σ' H' ⟨rfl, hil, F', ρ', ds, E', s', hf⟩
    obtain ⟨hgo, hstop⟩ := rI n F' H' s' E'.eo.same
    by_cases hlt : n < xs.length
    · refine .inr ?_
      obtain ⟨go, hyl⟩ := hgo _ (List.getElem?_eq_getElem hlt)
      refine ⟨go, fun σ2 H2 => n + 1 ≤ xs.length ∧ ∃ F' ρ' ds, EOD Γ F0 H0 F' H2 i σ2 ρ' ds ∧ Same F1 F' ∧ forD i b gd (xs.drop (n + 1)) ρ' ds = out, fun σ2 H2 ⟨h1, h2⟩ => ⟨xs.length - (n + 1), by omega, rfl, h1, h2⟩, fun v H2 y => ?_⟩
      obtain ⟨F2, e2, rx⟩ := hyl v H2 y
      have E2 := E'.ext e2
      rw [List.drop_eq_getElem_cons hlt] at hf
      unfold forD at hf
      split at hf
      case h_2 => subst hf; exact hp1.elim
      rename_i ρ1 hbx
      split at hf
      case h_2 => subst hf; exact hp1.elim
      rename_i hhid
      refine eg F0 H0 F2 H2 σ' ρ' v _ ρ1 _ E2.eo rx hbx fun σ3 E3 hwipe => ?_
      obtain ⟨p', vs, as, k1, k2, k3, k4, k5, k6⟩ := E2.deep
      have hσ3 : σ3[i]? = some (some (.ref p')) := by
        have e := hwipe is (fun _ h => h)
        have ni : i ∉ is := fun z => by
          rw [List.contains_iff_mem.mpr z] at hni
          cases hni
        have e2 := congrArg (fun l => l[i]?) e
        simp only [wipe_get, if_neg ni] at e2
        rw [e2]
        exact k1
      have E4 : EOD Γ F0 H0 F2 H2 i σ3 ρ1 ds := ⟨E3, hhid, p', vs, as, hσ3, k2, k3, k4, k5, k6⟩
      refine eb F0 H0 F2 H2 σ3 ρ1 ds _ E4 ?_
      cases hgd : gd ρ1 ds with
      | none => rw [hgd] at hf; subst hf; exact hp1.elim
      | some r =>
        rw [hgd] at hf
        exact fun F5 H5 σ5 s5 E5 => ⟨hlt, F5, r.1, r.2, E5, s'.trans (e2.f.trans s5), hf⟩
    · refine .inl ⟨hstop (by omega), ?_⟩
      have hz : xs.drop n = [] := List.drop_eq_nil_of_le (by omega)
      rw [hz] at hf
      unfold forD at hf
      subst hf
      obtain ⟨p', vs, as, k1, k2, k3, k4, k5, k6⟩ := E'.deep
      have nd' := List.nodup_cons.mp k6
      obtain ⟨F2, ex2, s2, o2, r2⟩ := k5.freeze nd'.2 E'.eo.ext
      have fp2 : F2 p' = none := by rw [o2 p' nd'.1]; exact k3
      have hil : i < σ'.length := by
        cases w : decide (i < σ'.length) with
        | true => exact of_decide_eq_true w
        | false => rw [List.getElem?_eq_none (by have := of_decide_eq_false w; omega)] at k1; cases k1
      refine hp1 F2 H' σ' (s'.trans s2) ⟨by rw [List.length_set]; exact E'.eo.len, ex2, fun j d hj => ?_, fun j k a d e hjk h1 h2 => ?_⟩
      · by_cases hji : i = j
        · subst hji
          rw [List.getElem?_set_self (by rw [← E'.eo.len]; exact hil)] at hj
          cases hj
          refine ⟨_, k1, ?_⟩
          have hc : ([i] : List Nat).contains i = true := by simp
          rw [hc]
          exact ⟨p', _, rfl, k2, fp2, k4, .lst r2.reverse⟩
        · rw [List.getElem?_set_ne hji] at hj
          obtain ⟨v, h1, h2⟩ := E'.eo.slot j d hj
          have hc : ([i] : List Nat).contains j = false := by simp; exact fun z => hji z.symm
          rw [hc]
          exact ⟨v, h1, Rep.mono s2 h2⟩
      · have z1 : j = i := by simpa using h1
        have z2 : k = i := by simpa using h2
        exact absurd (z1.trans z2.symm) hjk
/-! the pure side of it -/
def kD {α : Type} (f : α → Option (Ev0 × List D)) : Res α → Option (Ev0 × List D)
  | .ok a => f a
  | _ => none
@[simp] theorem kD_ok {α : Type} (f : α → Option (Ev0 × List D)) (a : α) : kD f (.ok a) = f a := (rfl)
def kD2 (h : DG) : Option (Ev0 × List D) → Option (Ev0 × List D)
  | some r => h r.1 r.2
  | none => none
@[simp] theorem kD2_s (h : DG) (ρ : Ev0) (ds : List D) : kD2 h (some (ρ, ds)) = h ρ ds := (rfl)
@[simp] theorem dNil_e (ρ : Ev0) (ds : List D) : dNil ρ ds = some (ρ, ds) := (rfl)
@[simp] theorem dSeq_e (g h : DG) (ρ : Ev0) (ds : List D) : dSeq g h ρ ds = kD2 h (g ρ ds) := by
  unfold dSeq
  cases g ρ ds <;> rfl
def kDIf (g h : DG) (ρ : Ev0) (ds : List D) (c : Bool) : Option (Ev0 × List D) := if c = true then g ρ ds else h ρ ds
@[simp] theorem kDIf_e (g h : DG) (ρ : Ev0) (ds : List D) (c : Bool) : kDIf g h ρ ds c = if c = true then g ρ ds else h ρ ds := (rfl)
@[simp] theorem dIf_e (i : Nat) (gc : Ev0 → Res Bool) (g h : DG) (ρ : Ev0) (ds : List D) : dIf i gc g h ρ ds = kD (kDIf g h ρ ds) (gc (ρ.set i (some (.lst ds.reverse)))) := by
  unfold dIf
  cases gc (ρ.set i (some (.lst ds.reverse))) with
  | ok b => cases b <;> rfl
  | ex c => rfl
  | no => rfl
def kDSet (n : Nat) (ρ : Ev0) (ds : List D) (d : D) : Option (Ev0 × List D) := some (ρ.set n (some d), ds)
@[simp] theorem kDSet_e (n : Nat) (ρ : Ev0) (ds : List D) (d : D) : kDSet n ρ ds d = some (ρ.set n (some d), ds) := (rfl)
@[simp] theorem dSet_e (n : Nat) (ge : Ev0 → Res D) (ρ : Ev0) (ds : List D) : dSet n ge ρ ds = kD (kDSet n ρ ds) (ge ρ) := by
  unfold dSet
  cases ge ρ <;> rfl
def kDSetS (n : Nat) (ρ : Ev0) (ds : List D) (d : D) : Option (Ev0 × List D) := if scal d = true then some (ρ.set n (some d), ds) else none
@[simp] theorem kDSetS_i (n : Nat) (ρ : Ev0) (ds : List D) (d : Int) : kDSetS n ρ ds (.int d) = some (ρ.set n (some (.int d)), ds) := (rfl)
@[simp] theorem dSetS_e (i n : Nat) (ge : Ev0 → Res D) (ρ : Ev0) (ds : List D) : dSetS i n ge ρ ds = kD (kDSetS n ρ ds) (ge (ρ.set i (some (.lst ds.reverse)))) := by
  unfold dSetS
  cases ge (ρ.set i (some (.lst ds.reverse))) <;> rfl
@[simp] theorem dPop_e (n : Nat) (ρ : Ev0) (d x : D) (es r : List D) : dPop n ρ (.tup [d, .lst (es ++ [x])] :: r) = some (ρ.set n (some x), .tup [d, .lst es] :: r) := by
  unfold dPop
  simp
def kDApp (ρ : Ev0) (ds : List D) (x : D) : Option (Ev0 × List D) := match ds with
  | .tup [d, .lst es] :: r => if es.length < sizeLine then some (ρ, .tup [d, .lst (es ++ [x])] :: r) else none
  | _ => none
@[simp] theorem kDApp_e (ρ : Ev0) (d x : D) (es r : List D) : kDApp ρ (.tup [d, .lst es] :: r) x = if es.length < sizeLine then some (ρ, .tup [d, .lst (es ++ [x])] :: r) else none := (rfl)
@[simp] theorem dApp_e (ge : Ev0 → Res D) (ρ : Ev0) (ds : List D) : dApp ge ρ ds = kD (kDApp ρ ds) (ge ρ) := by
  unfold dApp
  cases ge ρ <;> rfl
def kDP2 (ρ : Ev0) (ds : List D) (d1 d2 : D) : Option (Ev0 × List D) := if ds.length < sizeLine then some (ρ, .tup [d1, .lst [d2]] :: ds) else none
def kDP1 (g2' : Ev0 → Res D) (ρ : Ev0) (ds : List D) (d1 : D) : Option (Ev0 × List D) := kD (kDP2 ρ ds d1) (g2' ρ)
@[simp] theorem kDP2_e (ρ : Ev0) (ds : List D) (d1 d2 : D) : kDP2 ρ ds d1 d2 = if ds.length < sizeLine then some (ρ, .tup [d1, .lst [d2]] :: ds) else none := (rfl)
@[simp] theorem kDP1_e (g2' : Ev0 → Res D) (ρ : Ev0) (ds : List D) (d1 : D) : kDP1 g2' ρ ds d1 = kD (kDP2 ρ ds d1) (g2' ρ) := (rfl)
@[simp] theorem dPush_e (g1' g2' : Ev0 → Res D) (ρ : Ev0) (ds : List D) : dPush g1' g2' ρ ds = kD (kDP1 g2' ρ ds) (g1' ρ) := by
  unfold dPush
  cases g1' ρ with
  | ok d => show _ = kD (kDP2 ρ ds d) (g2' ρ); cases g2' ρ <;> rfl
  | ex c => rfl
  | no => rfl
def kDPS1 (g2' : Ev0 → Res D) (ρ : Ev0) (ds : List D) (d1 : D) : Option (Ev0 × List D) := if scal d1 = true then kD (kDP2 ρ ds d1) (g2' ρ) else none
@[simp] theorem kDPS1_i (g2' : Ev0 → Res D) (ρ : Ev0) (ds : List D) (d1 : Int) : kDPS1 g2' ρ ds (.int d1) = kD (kDP2 ρ ds (.int d1)) (g2' ρ) := (rfl)
@[simp] theorem dPushS_e (i : Nat) (g1' g2' : Ev0 → Res D) (ρ : Ev0) (ds : List D) : dPushS i g1' g2' ρ ds = kD (kDPS1 g2' ρ ds) (g1' (ρ.set i (some (.lst ds.reverse)))) := by
  unfold dPushS
  cases g1' (ρ.set i (some (.lst ds.reverse))) with
  | ok d =>
    show _ = kDPS1 g2' ρ ds d
    unfold kDPS1
    by_cases h : scal d = true
    · rw [if_pos h]
      cases g2' ρ <;> simp [h, kD]
    · rw [if_neg h]
      cases g2' ρ <;> simp [h, kD]
  | ex c => rfl
  | no => rfl
theorem forD_ix {α σ : Type} {k : Nat} {b : D → Ev0 → Res Ev0} {gd : DG} (enc : α → D) (R : Nat → σ → Ev0 → List D → Prop) (step : σ → α → σ) : ∀ (xs : List α) (n : Nat) (s : σ) (ρ : Ev0) (ds : List D),
    (∀ i (hi : i < xs.length) s ρ ds, R (n + i) s ρ ds → ∃ ρ1 ρ2 ds2, b (enc xs[i]) ρ = .ok ρ1 ∧ ρ1[k]? = some none ∧ gd ρ1 ds = some (ρ2, ds2) ∧ R (n + i + 1) (step s xs[i]) ρ2 ds2) → R n s ρ ds →
    ∃ ρ' ds', forD k b gd (xs.map enc) ρ ds = some (ρ', ds') ∧ R (n + xs.length) (xs.foldl step s) ρ' ds'
  | [], n, s, ρ, ds, _, r => ⟨ρ, ds, rfl, r⟩
  | x :: xs, n, s, ρ, ds, h, r => by
    obtain ⟨ρ1, ρ2, ds2, h1, h2, h3, h4⟩ := h 0 (Nat.zero_lt_succ _) s ρ ds r
    obtain ⟨ρ', ds', h5, h6⟩ := forD_ix enc R step xs (n + 1) (step s x) ρ2 ds2 (fun i hi s ρ ds r => by
      have := h (i + 1) (by rw [List.length_cons]; omega) s ρ ds (by rw [show n + (i + 1) = n + 1 + i by omega]; exact r)
      rw [show n + (i + 1) + 1 = n + 1 + i + 1 by omega] at this
      exact this) h4
    refine ⟨ρ', ds', ?_, by rw [List.length_cons, show n + (xs.length + 1) = n + 1 + xs.length by omega]; exact h6⟩
    rw [List.map_cons]
    unfold forD
    have h1 : b (enc x) ρ = .ok ρ1 := h1
    rw [h1]
    dsimp only
    rw [h2]
    dsimp only
    rw [h3]
    exact h5
end FL
namespace FL
open PySem PySem.Spec PyProof.Rows L2
variable {Γ : Gx}
/-! ### a module's number; text that is never reached -/
def glInt (K : PySem.W.Frag) (x : Str) (i : Int) : Bool := match PySem.W.nsIn K mainGlobals x with
  | some (some (.int j _)) => decide (j = i)
  | _ => false
theorem glInt_ok {K : PySem.W.Frag} {h : Heap} {mg : Str → Option Value} (X : K.In h) (G : h.Ns mainGlobals mg) {x : Str} {i : Int} (c : glInt K x i = true) : ∃ t, mg x = some (.int i t) := by
  unfold glInt at c
  split at c
  · rename_i j t e
    have ej : j = i := of_decide_eq_true c
    subst ej
    exact ⟨t, PySem.W.mg_of X G e⟩
  · cases c
section
variable {ι : Type} {X : ι → Cx} {W : WX} {M : List Nat} {m : Mds} {kr : Kd} {pos : Pos} {st : Stmt}
theorem fe_gint {x : Str} (i0 : Int) (hg : ∀ j, Gl (X j) x) (hm : ∀ j, ∃ t, (X j).mg x = some (.int i0 t)) (hd : (x == ("__debug__" : Str)) = false := by decide) : FE Γ X W M (.Name x pos) .sh (gC (.int i0)) :=
  ⟨tC (.int i0), fun j => by
    obtain ⟨t, h⟩ := hm j
    exact pe_glob (hg j) h (show RelV (.int i0) (.int i0 t) from ⟨t, rfl⟩) hd, fun F0 H0 F H σ ρ Q E hp => hp F H _ (Ext.refl E.same) (.int i0)⟩
def oNo : Ev0 → Out := fun _ => .no
theorem fs_never : FS Γ X W M m kr st oNo := ⟨tNever, fun _ => ps_never, fun F0 H0 F H σ ρ D E hp => hp.elim⟩
end
@[simp] theorem oNo_e (ρ : Ev0) : oNo ρ = .no := (rfl)
end FL
namespace FL
open PySem PySem.Spec PyProof.Rows L2
/-! ### a module's constant: numbers, texts, tuples of such -/
mutual
def chk (K : PySem.W.Frag) : D → Value → Bool
  | .int i, v => match v with
    | .int j _ => decide (j = i)
    | _ => false
  | .str s, v => match v with
    | .str z _ => decide (z = s)
    | _ => false
  | .ctup ds, v => match v with
    | .ref a => match K.lookup a with
      | some ⟨cls, _, .seq its _, _⟩ => decide (cls = .type "tuple") && (decide (its.size ≤ sizeLine) && chkL K ds its.toList)
      | _ => false
    | _ => false
  | _, _ => false
def chkL (K : PySem.W.Frag) : List D → List Value → Bool
  | [], [] => true
  | d :: ds, v :: vs => chk K d v && chkL K ds vs
  | _, _ => false
end
mutual
theorem chk_ok {K : PySem.W.Frag} {ct : Str → Option Addr} : ∀ (d : D) (v : Value), chk K d v = true → ∃ x, RelV x v ∧ ∀ F, Rep ⟨K, ct⟩ F x d
  | .int i, v, h => by
    unfold chk at h
    split at h
    · rename_i j t
      have e : j = i := of_decide_eq_true h
      subst e
      exact ⟨.int j, ⟨t, rfl⟩, fun F => .int j⟩
    · cases h
  | .str s, v, h => by
    unfold chk at h
    split at h
    · rename_i j t
      have e : j = s := of_decide_eq_true h
      subst e
      exact ⟨.str j, ⟨t, rfl⟩, fun F => .str j⟩
    · cases h
  | .ctup ds, v, h => by
    unfold chk at h
    split at h
    · rename_i a
      split at h
      · rename_i cls dd its n sl hK
        rw [Bool.and_eq_true, Bool.and_eq_true] at h
        obtain ⟨h1, h2, h3⟩ := h
        obtain ⟨xs, r1, r2⟩ := chkL_ok (ct := ct) ds its.toList h3
        exact ⟨.ref a, rfl, fun F => .ctup (fun _ => .inr ⟨_, its, n, hK, of_decide_eq_true h1, rfl, of_decide_eq_true h2, r1⟩) (r2 F)⟩
      · cases h
    · cases h
  | .non, _, h => by unfold chk at h; cases h
  | .bl _, _, h => by unfold chk at h; cases h
  | .lst _, _, h => by unfold chk at h; cases h
  | .dK _, _, h => by unfold chk at h; cases h
  | .dT _, _, h => by unfold chk at h; cases h
  | .obj _ _, _, h => by unfold chk at h; cases h
  | .scr _, _, h => by unfold chk at h; cases h
  | .tup _, _, h => by unfold chk at h; cases h
theorem chkL_ok {K : PySem.W.Frag} {ct : Str → Option Addr} : ∀ (ds : List D) (vs : List Value), chkL K ds vs = true → ∃ xs, Vals xs vs ∧ ∀ F, RepL ⟨K, ct⟩ F xs ds
  | [], [], _ => ⟨[], .nil, fun F => .nil⟩
  | d :: ds, v :: vs, h => by
    unfold chkL at h
    rw [Bool.and_eq_true] at h
    obtain ⟨x, r1, r2⟩ := chk_ok (ct := ct) d v h.1
    obtain ⟨xs, r3, r4⟩ := chkL_ok (ct := ct) ds vs h.2
    exact ⟨x :: xs, .cons r1 r3, fun F => .cons (r2 F) (r4 F)⟩
  | [], _ :: _, h => by unfold chkL at h; cases h
  | _ :: _, [], h => by unfold chkL at h; cases h
end
def glDat (K : PySem.W.Frag) (x : Str) (d : D) : Bool := match PySem.W.nsIn K mainGlobals x with
  | some (some v) => chk K d v
  | _ => false
/-- x stands for the datum d throughout -/
def GD (K : PySem.W.Frag) (mg : Str → Option Value) (ct : Str → Option Addr) (x : Str) (d : D) : Prop := ∃ u v, mg x = some u ∧ RelV v u ∧ ∀ F, Rep ⟨K, ct⟩ F v d
theorem glDat_ok {K : PySem.W.Frag} {h : Heap} {mg : Str → Option Value} {ct : Str → Option Addr} (X : K.In h) (G : h.Ns mainGlobals mg) {x : Str} {d : D} (c : glDat K x d = true) : GD K mg ct x d := by
  unfold glDat at c
  split at c
  · rename_i v e
    obtain ⟨x, r1, r2⟩ := chk_ok (ct := ct) d v c
    exact ⟨v, x, PySem.W.mg_of X G e, r1, r2⟩
  · cases c
theorem fe_gdat {ι : Type} {X : ι → Cx} {W : WX} {M : List Nat} {pos : Pos} {x : Str} {K : PySem.W.Frag} {mg : Str → Option Value} {ct : Str → Option Addr} (d : D) (hg : ∀ i, Gl (X i) x) (hm : GD K mg ct x d) (hx : ∀ i, (X i).mg = mg) (hd : (x == ("__debug__" : Str)) = false := by decide) : FE ⟨K, ct⟩ X W M (.Name x pos) .sh (gC d) := by
  obtain ⟨u, v, h1, h2, h3⟩ := hm
  exact ⟨tC v, fun i => pe_glob (hg i) (by rw [hx i]; exact h1) h2 hd, fun F0 H0 F H σ ρ Q E hp => hp F H v (Ext.refl E.same) (h3 F)⟩
end FL
namespace FL
open PySem PySem.Spec PyProof.Rows L2
variable {Γ : Gx}
/-! ### x += e -/
def addI := intOp (fun _ _ => true) fun i j => .int (i + j)
theorem rOut_bind {α β : Type} (r : Res α) (g : α → Res β) (f : β → Out) : rOut (r.bind g) f = rOut r fun a => rOut (g a) f := by cases r <;> rfl
section
variable {ι : Type} {X : ι → Cx} {W : WX} {M is : List Nat} {m : Mds} {e a b o c : Expr} {k kr ka kb ko kc : Kd} {pos p p2 : Pos} {ga gb go gc : Ev0 → Res D}
theorem fs_augAdd (A : Amb Γ X) (i : Nat) {x : Str} {M bk ct : List Nat} (hm : M.contains i = false) (hi : ∀ j, (X j).N[i]? = some x) (hx : ∀ j, Loc (X j).env.scope x) (h : FE Γ X W M e k ga)
    (hf : ∀ j, (X j).fn x = true ∨ (X j).env.scope.names.lookup x = some .local) : FS Γ X W M ⟨M, bk, ct⟩ kr (.AugAssign (.Name x p2) .Add e pos) (oSet i (g2 (gVar i) ga addI)) := by
  obtain ⟨t, p, ev⟩ := h.ob.ex
  refine ⟨_, fun j => ps_aug (A.nd j) (hi j) (hx j) (p j) ip_add (hf j), fun F0 H0 F H σ ρ D E hp => ?_⟩
  unfold oSet g2 gVar at hp
  cases hd : ρ[i]? with
  | none => rw [hd] at hp; exact hp.elim
  | some od =>
    cases od with
    | none => rw [hd] at hp; exact hp.elim
    | some d =>
      rw [hd] at hp
      obtain ⟨v, hv, hs⟩ := E.slot i d hd
      rw [hm] at hs
      replace hs : Rep Γ F v d := hs
      refine ⟨v, hv, ?_⟩
      replace hp : PostS Γ W F F0 H0 D ⟨M, bk, ct⟩ kr (rOut ((ga ρ).bind fun b => addI d b) fun z => .nx (ρ.set i (some z))) := hp
      rw [rOut_bind] at hp
      refine EvG.out ev E hp fun b F1 H1 w e1 E1 r1 hp1 => ?_
      unfold addI intOp at hp1
      split at hp1
      · rename_i i1 j1
        refine ⟨i1, j1, Rep.int_inv hs, Rep.int_inv r1, ?_⟩
        have E2 := E1.set i (v := .int (i1 + j1)) (d := .int (i1 + j1)) (.int _)
        rw [filter_id hm] at E2
        exact hp1 F1 H1 _ (Same.refl F1) E2
      · exact hp1.elim
/-! ### dicts with numbers and texts as keys -/
/-- the pairs, one beside the other -/
inductive KR (Γ : Gx) (F : Hp) {κ : Type} : List (κ × V) → List (κ × D) → Prop
  | nil : KR Γ F [] []
  | cons {k : κ} {v : V} {d : D} {kvs : List (κ × V)} {ds : List (κ × D)} : Rep Γ F v d → KR Γ F kvs ds → KR Γ F ((k, v) :: kvs) ((k, d) :: ds)
theorem KR.of {F : Hp} {κ : Type} : ∀ {kvs : List (κ × V)} {ds : List (κ × D)}, kvs.map (·.1) = ds.map (·.1) → RepL Γ F (kvs.map (·.2)) (ds.map (·.2)) → KR Γ F kvs ds
  | [], [], _, _ => .nil
  | [], _ :: _, h, _ => by cases h
  | _ :: _, [], h, _ => by cases h
  | (k, v) :: kvs, (k', d) :: ds, h, r => by
    have h1 : k = k' := (List.cons.inj h).1
    subst h1
    cases r with
    | cons r1 r2 => exact .cons r1 (KR.of (List.cons.inj h).2 r2)
theorem KR.keys {F : Hp} {κ : Type} : ∀ {kvs : List (κ × V)} {ds : List (κ × D)}, KR Γ F kvs ds → kvs.map (·.1) = ds.map (·.1)
  | _, _, .nil => rfl
  | _, _, .cons _ r => by rw [List.map_cons, List.map_cons, r.keys]
theorem KR.vals {F : Hp} {κ : Type} : ∀ {kvs : List (κ × V)} {ds : List (κ × D)}, KR Γ F kvs ds → RepL Γ F (kvs.map (·.2)) (ds.map (·.2))
  | _, _, .nil => .nil
  | _, _, .cons r1 r => .cons r1 r.vals
theorem KR.length {F : Hp} {κ : Type} : ∀ {kvs : List (κ × V)} {ds : List (κ × D)}, KR Γ F kvs ds → kvs.length = ds.length
  | _, _, .nil => rfl
  | _, _, .cons _ r => congrArg (· + 1) r.length
theorem KR.mono {F F' : Hp} {κ : Type} (s : Same F F') : ∀ {kvs : List (κ × V)} {ds : List (κ × D)}, KR Γ F kvs ds → KR Γ F' kvs ds
  | _, _, .nil => .nil
  | _, _, .cons r1 r => .cons (r1.mono s) (r.mono s)
section
variable {κ : Type} [DecidableEq κ] {α : Type}
def lookD (ds : List (κ × α)) (k : κ) : Option α := (ds.find? fun kv => decide (kv.1 = k)).map (·.2)
def putD (ds : List (κ × α)) (k : κ) (v : α) : List (κ × α) :=
  if (ds.any fun kv => decide (kv.1 = k)) = true then ds.map (fun kv => if kv.1 = k then (kv.1, v) else kv) else ds ++ [(k, v)]
def mergeD (ds more : List (κ × α)) : List (κ × α) := more.foldl (fun acc kv => putD acc kv.1 kv.2) ds
def dropD (ds : List (κ × α)) (k : κ) : List (κ × α) := ds.filter fun kv => decide (kv.1 ≠ k)
theorem KR.look {F : Hp} (k : κ) : ∀ {kvs : List (κ × V)} {ds : List (κ × D)}, KR Γ F kvs ds → match valV kvs k, lookD ds k with
    | some v, some d => Rep Γ F v d
    | none, none => True
    | _, _ => False
  | _, _, .nil => trivial
  | (k', v) :: kvs, (_, d) :: ds, .cons r1 r => by
    unfold valV lookD
    rw [List.find?_cons, List.find?_cons]
    by_cases e : k' = k
    · simp only [e, decide_true]
      exact r1
    · simp only [e, decide_false]
      exact KR.look k r
theorem KR.lookSome {F : Hp} {kvs : List (κ × V)} {ds : List (κ × D)} (kr : KR Γ F kvs ds) (k : κ) : (valV kvs k).isSome = (lookD ds k).isSome := by
  have hl := kr.look k
  split at hl
  · rename_i e1 e2; rw [e1, e2]; rfl
  · rename_i e1 e2; rw [e1, e2]; rfl
  · exact hl.elim
theorem KR.any {F : Hp} (k : κ) : ∀ {kvs : List (κ × V)} {ds : List (κ × D)}, KR Γ F kvs ds → (kvs.any fun kv => decide (kv.1 = k)) = ds.any fun kv => decide (kv.1 = k)
  | _, _, .nil => rfl
  | _, _, .cons _ r => by rw [List.any_cons, List.any_cons, r.any k]
theorem KR.repl {F : Hp} {k : κ} {v : V} {d : D} (rv : Rep Γ F v d) : ∀ {kvs : List (κ × V)} {ds : List (κ × D)}, KR Γ F kvs ds → KR Γ F (kvs.map fun kv => if kv.1 = k then (kv.1, v) else kv) (ds.map fun kv => if kv.1 = k then (kv.1, d) else kv)
  | _, _, .nil => .nil
  | (k', _) :: _, _, .cons r1 r => by
    rw [List.map_cons, List.map_cons]
    by_cases e : k' = k
    · rw [if_pos e, if_pos e]; exact .cons rv (r.repl rv)
    · rw [if_neg e, if_neg e]; exact .cons r1 (r.repl rv)
theorem KR.snoc {F : Hp} {k : κ} {v : V} {d : D} (rv : Rep Γ F v d) : ∀ {kvs : List (κ × V)} {ds : List (κ × D)}, KR Γ F kvs ds → KR Γ F (kvs ++ [(k, v)]) (ds ++ [(k, d)])
  | _, _, .nil => .cons rv .nil
  | _, _, .cons r1 r => .cons r1 (r.snoc rv)
theorem KR.put {F : Hp} {k : κ} {v : V} {d : D} (rv : Rep Γ F v d) {kvs : List (κ × V)} {ds : List (κ × D)} (h : KR Γ F kvs ds) : KR Γ F (putK kvs k v) (putD ds k d) := by
  unfold putK putD
  rw [h.any k]
  split
  · exact h.repl rv
  · exact h.snoc rv
theorem KR.drop {F : Hp} {k : κ} : ∀ {kvs : List (κ × V)} {ds : List (κ × D)}, KR Γ F kvs ds → KR Γ F (dropK kvs k) (dropD ds k)
  | _, _, .nil => .nil
  | (k', _) :: _, _, .cons r1 r => by
    unfold dropK dropD
    rw [List.filter_cons, List.filter_cons]
    by_cases e : k' = k
    · rw [if_neg (by simp [e]), if_neg (by simp [e])]; exact r.drop
    · rw [if_pos (by simp [e]), if_pos (by simp [e])]; exact .cons r1 r.drop
end
theorem KR.merge {F : Hp} : ∀ {more : List (Key × V)} {ms : List (Key × D)} {kvs : List (Key × V)} {ds : List (Key × D)}, KR Γ F more ms → KR Γ F kvs ds → KR Γ F (mergeK kvs more) (mergeD ds ms)
  | _, _, _, _, .nil, h => h
  | (k, v) :: more, (_, d) :: ms, kvs, ds, .cons r1 r, h => (KR.merge r (h.put r1) : KR Γ F (mergeK (putK kvs k v) more) (mergeD (putD ds k d) ms))
theorem keyO_rep {F : Hp} {v : V} {d : D} {k : Key} (r : Rep Γ F v d) (h : keyO d = some k) : v = kV k := by
  cases r <;> first | (cases h; rfl) | cases h
/-- a tuple of numbers and texts as a key -/
def keysO : List D → Option (List Key)
  | [] => some []
  | d :: ds => match keyO d, keysO ds with
    | some k, some ks => some (k :: ks)
    | _, _ => none
def keyT : D → Option (List Key)
  | .tup (d :: ds) => keysO (d :: ds)
  | _ => none
theorem keysO_rep {F : Hp} : ∀ {ds : List D} {vs : List V} {ks : List Key}, RepL Γ F vs ds → keysO ds = some ks → vs = ks.map kV
  | [], _, _, r, h => by
    cases r
    cases h
    rfl
  | d :: ds, _, ks, r, h => by
    cases r with
    | cons r1 r2 =>
      unfold keysO at h
      split at h
      · rename_i k ks' e1 e2
        cases h
        rw [List.map_cons, keyO_rep r1 e1, keysO_rep r2 e2]
      · cases h
theorem keyT_pairs {d : D} {ds : List D} {k : Key} (h : keyO d = some k) : pairsO (d :: ds) = none := by
  cases d <;> first | rfl | cases h
theorem keyT_rep {F : Hp} {v : V} {d : D} {ks : List Key} (r : Rep Γ F v d) (h : keyT d = some ks) : ∃ b, v = .ref b ∧ F b = some (.tup (ks.map kV)) := by
  cases r with
  | @tup a xs ds ht rl =>
    cases ds with
    | nil => cases h
    | cons d ds =>
      have h : keysO (d :: ds) = some ks := h
      have e := keysO_rep rl h
      rcases ht with ⟨_, ht⟩ | ⟨hn, _⟩
      · exact ⟨a, rfl, by rw [← e]; exact ht⟩
      · exfalso
        unfold keysO at h
        split at h
        · rename_i k ks' e1 e2
          exact hn (keyT_pairs e1)
        · cases h
  | _ => cases h
/-- where a dict stands, its data shared -/
theorem Rep1.dK {F H : Hp} (s : Same F H) {v : V} {ds : List (Key × D)} (h : Rep1 Γ F H v (.dK ds)) : ∃ p kvs, v = .ref p ∧ Rd H p (.dK kvs) ∧ KR Γ F kvs ds := by
  cases h with
  | sc r =>
    cases r with
    | dK h k r => exact ⟨_, _, rfl, Same.rd s h, .of k r⟩
  | ow e h =>
    cases h with
    | dK k r => exact ⟨_, _, rfl, .inl e, .of k r⟩
theorem Rep1.dT {F H : Hp} (s : Same F H) {v : V} {ds : List (List Key × D)} (h : Rep1 Γ F H v (.dT ds)) : ∃ p kvs, v = .ref p ∧ Rd H p (.dT kvs) ∧ KR Γ F kvs ds := by
  cases h with
  | sc r =>
    cases r with
    | dT h k r => exact ⟨_, _, rfl, Same.rd s h, .of k r⟩
  | ow e h =>
    cases h with
    | dT k r => exact ⟨_, _, rfl, .inl e, .of k r⟩
/-- d.get(k, z) -/
def kGet2 (ga gc : Ev0 → Res D) (ρ : Ev0) : D → Res D
  | .dK ds => (ga ρ).bind fun k => (gc ρ).bind fun z => match keyO k with
    | some k => .ok ((lookD ds k).getD z)
    | none => .no
  | _ => .no
def gGet2 (go ga gc : Ev0 → Res D) : Ev0 → Res D := fun ρ => (go ρ).bind (kGet2 ga gc ρ)
theorem fe_dget2 (A : Amb Γ X) {ap cp : Pos} (ho : FE Γ X W M o ko go) (he : FE Γ X W M e ka ga) (hf : FE Γ X W M c .sh gc) (m2 : ∀ j, M2 (X j) o "get" ap e c cp) (hk : ko ≠ .ob := by intro z; cases z) :
    FE Γ X W M (.Call (.Attribute o "get" ap) [e, c] [] cp) .sh (gGet2 go ga gc) := by
  obtain ⟨to, po, eo⟩ := (ho.ov hk).ex
  obtain ⟨te, pe, ee⟩ := he.ob.ex
  obtain ⟨tc, pc, ec⟩ := hf.ex
  refine ⟨_, fun i => pe_dget2 (by have := A.un i; omega) (po i) (pe i) (pc i) (m2 i), fun F0 H0 F H σ ρ Q E hp => ?_⟩
  show to σ H _
  refine EvG.bind eo RE.mono E hp fun d F1 H1 x e1 E1 r1 hp1 => ?_
  replace r1 : Rep1 Γ F1 H1 x d := r1
  unfold kGet2 at hp1
  split at hp1
  · rename_i ds
    obtain ⟨a, kvs, rfl, hd, kr⟩ := Rep1.dK E1.same r1
    refine ⟨a, rfl, .inl ⟨kvs, hd⟩, ?_⟩
    refine EvG.bind ee RE.mono E1 hp1 fun k F2 H2 y e2 E2 r2 hp2 => ?_
    refine EvG.bind ec RE.mono E2 hp2 fun z F3 H3 w e3 E3 r3 hp3 => ?_
    replace r2 : Rep Γ H2 y k := r2
    replace r3 : Rep Γ F3 w z := r3
    split at hp3
    · rename_i kk hkk
      have hd3 : Rd H3 a (.dK kvs) := Same.rd (e2.h.trans e3.h) hd
      have kr3 := kr.mono (e2.f.trans e3.f)
      refine ⟨_, .inl ⟨kvs, kk, hd3, keyO_rep r2 hkk, rfl⟩, hp3 F3 H3 _ (Ext.refl E3.same) ?_⟩
      have hl := kr3.look kk
      show Rep Γ F3 _ _
      split at hl
      · rename_i v dd e1 e2
        rw [e1, e2]
        exact hl
      · rename_i e1 e2
        rw [e1, e2]
        exact r3
      · exact hl.elim
    · exact hp3.elim
  · exact hp1.elim
/-- d[k] -/
def kGet (ga : Ev0 → Res D) (ρ : Ev0) : D → Res D
  | .dK ds => (ga ρ).bind fun k => match keyO k with
    | some k => match lookD ds k with
      | some d => .ok d
      | none => .no
    | none => .no
  | _ => .no
def gGet (go ga : Ev0 → Res D) : Ev0 → Res D := fun ρ => (go ρ).bind (kGet ga ρ)
theorem fe_dget (A : Amb Γ X) (ho : FE Γ X W M o ko go) (he : FE Γ X W M e ka ga) (hs : NoSl e) (hk : ko ≠ .ob := by intro z; cases z) :
    FE Γ X W M (.Subscript o e pos) .sh (gGet go ga) := by
  obtain ⟨to, po, eo⟩ := (ho.ov hk).ex
  obtain ⟨te, pe, ee⟩ := he.ob.ex
  refine ⟨_, fun i => pe_dget (by have := A.un i; omega) (po i) (pe i) hs, fun F0 H0 F H σ ρ Q E hp => ?_⟩
  show to σ H _
  refine EvG.bind eo RE.mono E hp fun d F1 H1 x e1 E1 r1 hp1 => ?_
  replace r1 : Rep1 Γ F1 H1 x d := r1
  unfold kGet at hp1
  split at hp1
  · rename_i ds
    obtain ⟨a, kvs, rfl, hd, kr⟩ := Rep1.dK E1.same r1
    refine EvG.bind ee RE.mono E1 hp1 fun k F2 H2 y e2 E2 r2 hp2 => ?_
    replace r2 : Rep Γ H2 y k := r2
    split at hp2
    · rename_i kk hkk
      have hd2 : Rd H2 a (.dK kvs) := Same.rd e2.h hd
      have kr2 := kr.mono e2.f
      have hl := kr2.look kk
      split at hp2
      · rename_i dd e3
        rw [e3] at hl
        split at hl
        · rename_i v d4 e4 e5
          cases e5
          exact ⟨a, v, rfl, .inl ⟨kvs, kk, hd2, keyO_rep r2 hkk, e4.symm⟩, hp2 F2 H2 _ (Ext.refl E2.same) hl⟩
        · rename_i e5; cases e5
        · exact hl.elim
      · exact hp2.elim
    · exact hp2.elim
  · exact hp1.elim
/-- k in d, k not in d -/
def kIn (neg : Bool) (go : Ev0 → Res D) (ρ : Ev0) (k : D) : Res D := (go ρ).bind fun d => match d, keyO k with
  | .dK ds, some k => .ok (.bl (if neg = true then !(lookD ds k).isSome else (lookD ds k).isSome))
  | .dT ds, _ => match keyT k with
    | some k => .ok (.bl (if neg = true then !(lookD ds k).isSome else (lookD ds k).isSome))
    | none => .no
  | _, _ => .no
def gInD (neg : Bool) (ga go : Ev0 → Res D) : Ev0 → Res D := fun ρ => (ga ρ).bind (kIn neg go ρ)
theorem ev_dinA {ta to : TE} {neg : Bool} (ea : EvG Γ W M ta (RE Γ .ob) ga) (eo : EvG Γ W M to (RE Γ .ov) go) : EvG Γ W M (fun σ H Q => ta σ H fun y H1 => to σ H1 fun x H2 => ∃ a o, x = .ref a ∧ DGet H2 a y o ∧ Q (.bl (if neg = true then !o.isSome else o.isSome)) H2) (RE Γ .sh) (gInD neg ga go) := fun F0 H0 F H σ ρ Q E hp => by
  refine EvG.bind ea RE.mono E hp fun k F1 H1 y e1 E1 r1 hp1 => ?_
  refine EvG.bind eo RE.mono E1 hp1 fun d F2 H2 x e2 E2 r2 hp2 => ?_
  replace r1 : Rep Γ H1 y k := r1
  replace r2 : Rep1 Γ F2 H2 x d := r2
  split at hp2
  · rename_i ds kk hkk
    obtain ⟨a, kvs, rfl, hd, kr⟩ := Rep1.dK E2.same r2
    have hl := kr.look kk
    have e : (valV kvs kk).isSome = (lookD ds kk).isSome := by
      split at hl
      · rename_i e1 e2; rw [e1, e2]; rfl
      · rename_i e1 e2; rw [e1, e2]; rfl
      · exact hl.elim
    exact ⟨a, _, rfl, .inl ⟨kvs, kk, hd, keyO_rep r1 hkk, rfl⟩, by rw [e]; exact hp2 F2 H2 _ (Ext.refl E2.same) (.bl _)⟩
  · rename_i ds _
    split at hp2
    · rename_i kk hkk
      obtain ⟨a, kvs, rfl, hd, kr⟩ := Rep1.dT E2.same r2
      have e := kr.lookSome kk
      obtain ⟨b, rfl, hb⟩ := keyT_rep r1 hkk
      exact ⟨a, _, rfl, .inr ⟨kvs, kk, b, hd, rfl, e2.h _ _ hb, rfl⟩, by rw [e]; exact hp2 F2 H2 _ (Ext.refl E2.same) (.bl _)⟩
    · exact hp2.elim
  · exact hp2.elim
theorem fe_din (A : Amb Γ X) (ha : FE Γ X W M a ka ga) (ho : FE Γ X W M o ko go) (hm : ∀ i : Nat, behindInMarks .In o = false) (hk : ko ≠ .ob := by intro z; cases z) : FE Γ X W M (.Compare a [.In] [o] pos) .sh (gInD false ga go) := by
  obtain ⟨ta, pa, ea⟩ := ha.ob.ex
  obtain ⟨to, po, eo⟩ := (ho.ov hk).ex
  exact ⟨_, fun i => pe_cmp (pc_din (by have := A.un i; omega) (pa i) (po i)) (hm 0), ev_dinA (neg := false) ea eo⟩
theorem fe_dnotin (A : Amb Γ X) (ha : FE Γ X W M a ka ga) (ho : FE Γ X W M o ko go) (hm : ∀ i : Nat, behindInMarks .NotIn o = false) (hk : ko ≠ .ob := by intro z; cases z) : FE Γ X W M (.Compare a [.NotIn] [o] pos) .sh (gInD true ga go) := by
  obtain ⟨ta, pa, ea⟩ := ha.ob.ex
  obtain ⟨to, po, eo⟩ := (ho.ov hk).ex
  exact ⟨_, fun i => pe_cmp (pc_dnotin (by have := A.un i; omega) (pa i) (po i)) (hm 0), ev_dinA (neg := true) ea eo⟩
/-- d[k] = v, d own -/
def kPut2 (i : Nat) (ds : List (Key × D)) (v : D) (ρ : Ev0) (k : D) : Out := match keyO k with
  | some k => if ds.length < sizeLine then .nx (ρ.set i (some (.dK (putD ds k v)))) else .no
  | none => .no
def kPutT (i : Nat) (ds : List (List Key × D)) (v : D) (ρ : Ev0) (k : D) : Out := match keyT k with
  | some k => if ds.length < sizeLine then .nx (ρ.set i (some (.dT (putD ds k v)))) else .no
  | none => .no
def kPut1 (i : Nat) (gk : Ev0 → Res D) (ρ : Ev0) (v : D) : D → Out
  | .dK ds => rOut (gk ρ) (kPut2 i ds v ρ)
  | .dT ds => rOut (gk ρ) (kPutT i ds v ρ)
  | _ => .no
def kPut (i : Nat) (gk : Ev0 → Res D) (ρ : Ev0) (v : D) : Out := rOut (gVar i ρ) (kPut1 i gk ρ v)
def oPut (i : Nat) (gv gk : Ev0 → Res D) : Ev0 → Out := fun ρ => rOut (gv ρ) (kPut i gk ρ)
theorem gVar_some {i : Nat} {ρ : Ev0} {d : D} (h : gVar i ρ = .ok d) : ρ[i]? = some (some d) := by
  unfold gVar at h
  cases hd : ρ[i]? with
  | none => rw [hd] at h; cases h
  | some o =>
    cases o with
    | none => rw [hd] at h; cases h
    | some d' => rw [hd] at h; cases h; rfl
theorem fs_dput (A : Amb Γ X) (i : Nat) {x : Str} {p1 : Pos} {M bk ct : List Nat} {kv : Kd} {gv gk : Ev0 → Res D} {key v : Expr} (hN : ∀ j, (X j).N[i]? = some x) (hv : ∀ j, Vis (X j).env.scope x) (hm : M.contains i = true) (h : FE Γ X W M v .sh gv) (hk : FE Γ X W M key kv gk)
    (hs : ∀ j, swapsWith v (some (.Subscript (.Name x p1) key p2)) pos.line (X j).env = pure false) (hd : (x == ("__debug__" : Str)) = false := by decide) (hcd : (x == ("__classdict__" : Str)) = false := by decide) :
    FS Γ X W M ⟨M, bk, ct⟩ kr (.Assign [.Subscript (.Name x p1) key p2] v pos) (oPut i gv gk) := by
  obtain ⟨t, p, ev⟩ := h.ex
  obtain ⟨tk, pk, ek⟩ := hk.ob.ex
  refine ⟨_, fun j => ps_dput (by have := A.un j; omega) (pe_var (hN j) (hv j) hd hcd) (pk j) (p j) (hs j), fun F0 H0 F H σ ρ D E hp => ?_⟩
  show t σ H _
  refine EvG.out ev E hp fun d F1 H1 w e1 E1 r1 hp1 => ?_
  unfold kPut at hp1
  cases hg : gVar i ρ with
  | ex c => rw [hg] at hp1; unfold gVar at hg; split at hg <;> cases hg
  | no => rw [hg] at hp1; exact hp1.elim
  | ok dd =>
    rw [hg] at hp1
    have hρ := gVar_some hg
    obtain ⟨q, o', hv', h0, hf, ho, hh⟩ := E1.own hm hρ
    replace hp1 : PostS Γ W F1 F0 H0 D ⟨M, bk, ct⟩ kr (kPut1 i gk ρ d dd) := hp1
    cases hh with
    | @dK kvs ds hkk r =>
      refine ⟨_, hv', ?_⟩
      refine EvG.out ek E1 hp1 fun z F2 H2 w2 e2 E2 r2 hp2 => ?_
      unfold kPut2 at hp2
      split at hp2
      · rename_i kk hkey
        split at hp2
        · rename_i hl
          obtain ⟨q', o2, hv2, h02, hf2, ho2, hh2⟩ := E2.own hm hρ
          rw [hv'] at hv2
          cases hv2
          have hH2 := e2.h _ _ ho
          have kr := (KR.of hkk r).mono e2.f
          have kp := kr.put (k := kk) (Rep.mono e2.f r1)
          refine ⟨q, _, rfl, ?_, hp2 F2 _ σ (Same.refl F2) (E2.upd hm hρ hv' h0 hf2 (.dK kp.keys kp.vals))⟩
          exact .inl ⟨kvs, kk, hH2, keyO_rep r2 hkey, by rw [kr.length]; exact hl, rfl⟩
        · exact hp2.elim
      · exact hp2.elim
    | lst r => exact hp1.elim
    | @dT kvs ds hkk r =>
      refine ⟨_, hv', ?_⟩
      refine EvG.out ek E1 hp1 fun z F2 H2 w2 e2 E2 r2 hp2 => ?_
      unfold kPutT at hp2
      split at hp2
      · rename_i kk hkey
        split at hp2
        · rename_i hl
          obtain ⟨q', o2, hv2, h02, hf2, ho2, hh2⟩ := E2.own hm hρ
          rw [hv'] at hv2
          cases hv2
          have hH2 := e2.h _ _ ho
          have kr := (KR.of hkk r).mono e2.f
          have kp := kr.put (k := kk) (Rep.mono e2.f r1)
          have r2 : Rep Γ H2 w2 z := r2
          obtain ⟨b, rfl, hb⟩ := keyT_rep r2 hkey
          refine ⟨q, _, rfl, ?_, hp2 F2 _ σ (Same.refl F2) (E2.upd hm hρ hv' h0 hf2 (.dT kp.keys kp.vals))⟩
          exact .inr ⟨kvs, kk, b, hH2, rfl, hb, by rw [kr.length]; exact hl, rfl⟩
        · exact hp2.elim
      · exact hp2.elim
/-- list(d.items()), d own -/
def gItemsL (i : Nat) : Ev0 → Res D := fun ρ => (gVar i ρ).bind fun d => match d with
  | .dK ds => .ok (.lst (ds.map itemD))
  | _ => .no
theorem tups_rep {F' : Hp} {ts : List Addr} {kvs : List (Key × V)} {H' : Hp} : ∀ {ds : List (Key × D)}, (∀ t ∈ ts, F' t = H' t) → Paired (fun (t : Addr) (q : Key × V) => H' t = some (.tup [kV q.1, q.2])) ts kvs → KR Γ F' kvs ds → RepL Γ F' (ts.map V.ref) (ds.map itemD) := by
  intro ds hn hp
  induction hp generalizing ds with
  | nil => intro kr; cases kr; exact .nil
  | @cons t q ts kvs ht hr ih =>
    intro kr
    cases kr with
    | @cons k v d _ ds rv kr =>
      exact .cons (.tup (.inl ⟨pairs_key _ _, by rw [hn t List.mem_cons_self]; exact ht⟩) (.cons (keyD_rep k) (.cons rv .nil))) (ih (fun t h => hn t (List.mem_cons_of_mem _ h)) kr)
theorem fe_listItems (A : Amb Γ X) (i : Nat) {x : Str} {p1 ap cp : Pos} (hN : ∀ j, (X j).N[i]? = some x) (hv : ∀ j, Vis (X j).env.scope x) (hM : M.contains i = true) (hg : ∀ i, Gl (X i) "list") (hm : ∀ i, (X i).mg "list" = none)
    (hbase : ∀ j, attributeBase (.Name x p1) "items" (X j).env (eval (.Name x p1) (X j).env) = eval (.Name x p1) (X j).env) (hline : (ap.endLine == cp.line) = true)
    (hs : ∀ j, starEach [.Call (.Attribute (.Name x p1) "items" ap) [] [] cp] (X j).env = (false, eval (.Call (.Attribute (.Name x p1) "items" ap) [] [] cp) (X j).env) :: starEach [] (X j).env) (hd : (x == ("__debug__" : Str)) = false := by decide) (hcd : (x == ("__classdict__" : Str)) = false := by decide) :
    FE Γ X W M (.Call (.Name "list" p) [.Call (.Attribute (.Name x p1) "items" ap) [] [] cp] [] pos) .ow (gItemsL i) := by
  refine ⟨_, fun j => LiI.pe_listItems (A.calm j) (pe_var (hN j) (hv j) hd hcd) (hg j) (hm j) (by decide +kernel) (hbase j) hline (hs j), fun F0 H0 F H σ ρ Q E hp => ?_⟩
  unfold gItemsL at hp
  cases hgv : gVar i ρ with
  | ex c => unfold gVar at hgv; split at hgv <;> cases hgv
  | no => rw [hgv] at hp; exact hp.elim
  | ok d =>
    rw [hgv] at hp
    have hρ := gVar_some hgv
    obtain ⟨q, o', hv', h0, hf, ho, hh⟩ := E.own hM hρ
    cases hh with
    | lst r => exact hp.elim
    | dT k r => exact hp.elim
    | @dK kvs ds hkk r =>
      refine ⟨_, hv', q, kvs, rfl, ho, fun H' p ts s1 hp0 hts hpt hHp hpr => ?_⟩
      have kr := KR.of hkk r
      have sF : Same F (fun a => if a ∈ ts then H' a else F a) := fun a o e => by
        by_cases h : a ∈ ts
        · have := E.same _ _ e
          rw [hts a h] at this
          cases this
        · show (if a ∈ ts then H' a else F a) = _
          rw [if_neg h]; exact e
      have hFp : F p = none := E.same.free hp0
      refine hp (fun a => if a ∈ ts then H' a else F a) H' _ ⟨sF, s1, fun a o e => ?_, fun a o e => ?_⟩ ⟨p, _, rfl, hp0, ?_, hHp, .lst (tups_rep (fun t h => if_pos h) hpr (kr.mono sF))⟩
      · by_cases h : a ∈ ts
        · have e : (if a ∈ ts then H' a else F a) = some o := e
          rw [if_pos h] at e; exact e
        · have e : (if a ∈ ts then H' a else F a) = some o := e
          rw [if_neg h] at e; exact s1 _ _ (E.same _ _ e)
      · by_cases h : a ∈ ts
        · exact .inr (.inl (hts a h))
        · have e : (if a ∈ ts then H' a else F a) = some o := e
          rw [if_neg h] at e; exact .inl ⟨o, e⟩
      · show (if p ∈ ts then H' p else F p) = none
        rw [if_neg hpt]; exact hFp
/-! ### dict(pairs) -/
def seq2 : D → Option (List D)
  | .lst xs => some xs
  | .tup xs => some xs
  | _ => none
def dictD (d : D) : Res D := match seq2 d with
  | some ds => match pairsO ds with
    | some kvs => .ok (.dK (mergeD [] kvs))
    | none => .no
  | none => .no
/-- pairs that stand still -/
def Prs (K : PySem.W.Frag) (H : Hp) : List V → List (Key × V) → Prop := Paired fun x kv => ∃ p, x = .ref p ∧ SqT K H p [kV kv.1, kv.2]
theorem prs_of {F : Hp} : ∀ {vs : List V} {ds : List D} {ks : List (Key × D)}, RepL Γ F vs ds → pairsO ds = some ks → ∃ kvs, Prs Γ.K F vs kvs ∧ KR Γ F kvs ks
  | _, _, _, .nil, e => by cases e; exact ⟨[], .nil, .nil⟩
  | _, d :: ds, ks, .cons h r, e => by
    cases h with
    | @tup a xs es h1 r1 =>
      cases r1 with
      | nil => unfold pairsO at e; cases e
      | cons q1 t1 =>
        cases t1 with
        | nil => unfold pairsO at e; cases e
        | cons q2 t2 =>
          cases t2 with
          | cons q3 t3 => unfold pairsO at e; cases e
          | nil =>
            unfold pairsO at e
            split at e
            · rename_i k r' e1 e2
              cases e
              obtain ⟨kvs, p1, k1⟩ := prs_of r e2
              have := keyO_rep q1 e1
              subst this
              exact ⟨_, .cons ⟨a, rfl, h1.seqT⟩ p1, .cons q2 k1⟩
            · cases e
    | _ => unfold pairsO at e; cases e
def PlT (H : Hp) (a : Addr) (vs : List V) : Prop := ∃ o : Obj, o.dict = none ∧ H a = some (.frz o (.tup vs))
def refV : Value → Addr
  | .ref b => b
  | _ => 0
theorem pairs_at {Y : Cx} {pins : List (Addr × Obj)} {σ : L2.St} {H : Hp} {s : Shared} (I : Inv Y pins σ H s) : ∀ {vs : List V} {kvs : List (Key × V)} {its : List Value}, Prs Y.K H vs kvs → Vals vs its →
    ∃ (ps : List (Value × Value)) (prs : List (Key × Value)), KV kvs prs ∧ prs.length = its.length ∧ ps.length = its.length ∧ ∀ (j : Nat) (k v : Value), ps[j]? = some (k, v) → ∃ b, its[j]? = some (.ref b) ∧ IsTup s.heap b #[k, v] ∧ ∃ key, prs[j]? = some (key, v) ∧ (mixKind Y.prog Y.w).is key k = true
  | _, _, _, .nil, .nil => ⟨[], [], .nil, rfl, rfl, fun j k v e => by simp at e⟩
  | _, _, _, .cons (b := kv) hp t, .cons rv tv => by
    obtain ⟨ps, prs, r, l1, l2, h⟩ := pairs_at I t tv
    obtain ⟨p, ex, hq⟩ := hp
    subst ex
    cases rv
    obtain ⟨its, rv, ht, _⟩ := I.tuple hq
    obtain ⟨u, y, ei, ru, ry⟩ := vals2 rv
    subst ei
    refine ⟨(u, y) :: ps, (kv.1, y) :: prs, .cons ⟨rfl, ry⟩ r, by rw [List.length_cons, List.length_cons, l1], by rw [List.length_cons, List.length_cons, l2], fun j k v e => ?_⟩
    cases j with
    | zero =>
      have e' : (u, y) = (k, v) := Option.some.inj e
      cases e'
      exact ⟨p, rfl, ht, kv.1, rfl, kV_is ru⟩
    | succ j => exact h j k v (by simpa using e)
theorem call_dictA {Y : Cx} (hK : Y.K = Γ.K) (hcalm : Y.calm = true) : CallR Y (.type "dict") (fun xs H Q => ∃ (a : Addr) (vs : List V) (kvs : List (Key × V)), xs = [.ref a] ∧ (SqL Γ.K H a vs ∨ PlT H a vs) ∧ Prs Γ.K H vs kvs ∧
    ∀ p, H p = none → Q (.ref p) (upd H p (.dK (mergeK [] kvs)))) := by
  intro pins s σ H xs us Q I r q
  obtain ⟨a, vs, kvs, ex, hq, hp, q⟩ := q
  subst ex
  obtain ⟨u, eu, rx⟩ := vals1 r
  subst eu
  cases rx
  rw [← hK] at hq hp
  obtain ⟨T, hT, its, rv, hz, pl⟩ : ∃ T, (T = "list" ∨ T = "tuple") ∧ ∃ its : List Value, Vals vs its ∧ vs.length ≤ sizeLine ∧ PlainSeq T s.heap a its.toArray := by
    rcases hq with hq | ⟨o, ho, hq⟩
    · obtain ⟨its, rv, ⟨o, n, h1, h2, h3, h4⟩, hz⟩ := I.list hq
      exact ⟨"list", .inl rfl, its, rv, hz, o, n, h1, h2, h3, h4⟩
    · obtain ⟨hg, hz, its, rv, ⟨o', h1, h2, n, h3⟩⟩ := I.hok a _ hq
      rw [hg] at h1
      cases h1
      exact ⟨"tuple", .inr rfl, its, rv, hz, o, n, hg, h2, ho, h3⟩
  obtain ⟨ps, prs, rel, l1, l2, hpr⟩ := pairs_at I hp rv
  have hlen := rv.length
  have pit : PairItems s.heap its.toArray (fun j => ((its[j]?).map refV).getD 0) ps := by
    refine ⟨by simp [l2], fun j k v e => ?_⟩
    obtain ⟨b, e1, e2, _⟩ := hpr j k v e
    refine ⟨by simp [e1, refV], .inl ?_⟩
    show s.heap.IsTuple (((its[j]?).map refV).getD 0) #[k, v]
    rw [e1]
    exact e2
  have hv : PairsHave (mixKind Y.prog Y.w) ps.length (PairRel ps) prs := ⟨by omega, fun i key v e => by
    obtain ⟨b, _, _, k, e3, e4⟩ := hpr i key v e
    exact ⟨k, e3, e4⟩⟩
  have fin : ∀ h' tk, h'.DictOf (mixKind Y.prog Y.w) s.heap.objs.size (merged [] prs) → (∀ b o, s.heap.get? b = some o → h'.get? b = some o) → EP Y pins σ Q (.ref s.heap.objs.size) { s with heap := h', toks := tk } := fun h' tk hd' k => by
    have hm : (s.heap.objs.size == sysModules) = false := beq_eq_false_iff_ne.mpr (Nat.ne_of_gt I.big)
    have hlen : (mergeK [] kvs).length ≤ sizeLine := by
      refine Nat.le_trans (length_mergeK kvs []) ?_
      have := rel.length
      rw [List.length_nil, Nat.zero_add]
      omega
    exact ⟨.ref s.heap.objs.size, upd H s.heap.objs.size (.dK (mergeK [] kvs)), I.laid (t' := tk) k (Nat.le_refl _) (show ObjOk Y.prog Y.w _ _ _ (.dK (mergeK [] kvs)) from ⟨hlen, hm, merged [] prs, KV.merge rel .nil, hd'⟩), rfl, q _ (I.hok.fresh (Nat.le_refl _))⟩
  rcases hT with rfl | rfl
  · exact PySem.call_dict_pairs (PairArg.list a its.toArray _ ps) (I.ok.hd hcalm) ⟨pl, pit⟩ hv (by omega) fun h' tk hd' k => fin h' tk hd' fun b o e => k b o (by simp) e
  · exact PySem.call_dict_pairs (PairArg.tuple a its.toArray _ ps) (I.ok.hd hcalm) ⟨pl, pit⟩ hv (by omega) fun h' tk hd' k => fin h' tk hd' fun b o e => k b o (by simp) e
theorem fe_dict (A : Amb Γ X) (T : C1x X "dict" e pos) (h : FE Γ X W M e ka ga) (hk : ka ≠ .ob := by intro z; cases z) : FE Γ X W M (.Call (.Name "dict" p) [e] [] pos) .ow (g1 ga dictD) :=
  fe_ct1 (r := fun Γ xs H Q => ∃ (a : Addr) (vs : List V) (kvs : List (Key × V)), xs = [.ref a] ∧ (SqL Γ.K H a vs ∨ PlT H a vs) ∧ Prs Γ.K H vs kvs ∧ ∀ p, H p = none → Q (.ref p) (upd H p (.dK (mergeK [] kvs)))) (fun i => call_dictA (A.K i) (A.calm i)) (fun W F H σ Q x d s r hp => by
    unfold dictD at hp
    split at hp
    · rename_i ds hs
      split at hp
      · rename_i kvs hk
        have fin : ∀ {vs : List V} {a : Addr}, (SqL Γ.K H a vs ∨ PlT H a vs) → RepL Γ F vs ds → x = .ref a → ∃ (a : Addr) (vs : List V) (kvs : List (Key × V)), [x] = [.ref a] ∧ (SqL Γ.K H a vs ∨ PlT H a vs) ∧ Prs Γ.K H vs kvs ∧ ∀ p, H p = none → Q (.ref p) (upd H p (.dK (mergeK [] kvs))) := fun {vs a} hq rr ex => by
          subst ex
          obtain ⟨kk, p1, k1⟩ := prs_of rr hk
          have p2 : Prs Γ.K H vs kk := Paired.mapP p1 fun _ _ ⟨p, e, h⟩ => ⟨p, e, Same.seqT s h⟩
          have km := KR.merge k1 (.nil (κ := Key) (F := F))
          exact ⟨a, vs, kk, rfl, hq, p2, fun l hl => hp _ _ _ (Ext.own s hl) ⟨l, _, rfl, hl, s.free hl, upd_same, .dK km.keys km.vals⟩⟩
        unfold seq2 at hs
        split at hs
        · cases hs
          obtain ⟨q, xs, rfl, hq, rr⟩ := Rep1.lst s r
          exact fin (.inl (.inl hq)) rr rfl
        · cases hs
          have r : Rep1 Γ F H x (.tup _) := r
          cases r with
          | sc r =>
            cases r with
            | tup h rr =>
              rcases h with ⟨h, _⟩ | ⟨_, o, ho, h⟩
              · rw [hk] at h; cases h
              · exact fin (.inr ⟨o, ho, s _ _ h⟩) rr rfl
          | ow e h => cases h
        · cases hs
      · exact hp.elim
    · exact hp.elim) T.g T.m (by decide +kernel) (h.ov hk) T.he T.hpl
end
/-! ### the pure side -/
@[simp] theorem addI_e (i j : Int) : addI (.int i) (.int j) = .ok (.int (i + j)) := (rfl)
@[simp] theorem keyO_int (i : Int) : keyO (.int i) = some (.inl i) := (rfl)
@[simp] theorem gGet2_e (go ga gc : Ev0 → Res D) (ρ : Ev0) : gGet2 go ga gc ρ = (go ρ).bind (kGet2 ga gc ρ) := (rfl)
@[simp] theorem gGet_e (go ga : Ev0 → Res D) (ρ : Ev0) : gGet go ga ρ = (go ρ).bind (kGet ga ρ) := (rfl)
@[simp] theorem gInD_e (neg : Bool) (ga go : Ev0 → Res D) (ρ : Ev0) : gInD neg ga go ρ = (ga ρ).bind (kIn neg go ρ) := (rfl)
@[simp] theorem oPut_e (i : Nat) (gv gk : Ev0 → Res D) (ρ : Ev0) : oPut i gv gk ρ = rOut (gv ρ) (kPut i gk ρ) := (rfl)
@[simp] theorem kPut_e (i : Nat) (gk : Ev0 → Res D) (ρ : Ev0) (v : D) : kPut i gk ρ v = rOut (gVar i ρ) (kPut1 i gk ρ v) := (rfl)
@[simp] theorem kPut1_e (i : Nat) (gk : Ev0 → Res D) (ρ : Ev0) (v : D) (ds : List (Key × D)) : kPut1 i gk ρ v (.dK ds) = rOut (gk ρ) (kPut2 i ds v ρ) := (rfl)
end FL
namespace FL
open PySem PySem.Spec PyProof.Rows L2
variable {Γ : Gx}
/-! ### len(set(numbers)) -/
def dedI (ns : List Int) : List Int := ns.foldl step_dedup []
theorem met_all (ns : List Int) : firstMet (fun i => ns.getD i 0) ns.length = dedI ns := by
  unfold firstMet dedI
  congr 1
  apply List.ext_getElem
  · simp
  · intro i h1 h2
    simp
    rw [List.getElem?_eq_getElem h2]
    rfl
def lenSetD : D → Res D
  | .lst ds => match intsOf ds with
    | some ns => if ns.length ≤ 4000 then .ok (.int (dedI ns).length) else .no
    | none => .no
  | _ => .no
def tLenSetA (ta : TE) : TE := fun σ H Q => ta σ H fun x H1 => ∃ (l : Addr) (ns : List Int), x = .ref l ∧ Rd H1 l (.lst (ns.map V.int)) ∧ ns.length ≤ 4000 ∧ Q (.int (dedI ns).length) H1
theorem pe_lenSetA {X : Cx} {a : Expr} {ta : TE} {p p2 q pos : Pos} (hg : Gl X "len") (hm : X.mg "len" = none) (hg2 : Gl X "set") (hm2 : X.mg "set" = none) (ha : PE X a ta) (hc : X.calm = true)
    (na : starEach [a] X.env = (false, eval a X.env) :: starEach [] X.env) (nb : starEach [.Call (.Name "set" p2) [a] [] q] X.env = (false, eval (.Call (.Name "set" p2) [a] [] q) X.env) :: starEach [] X.env) : PE X (.Call (.Name "len" p) [.Call (.Name "set" p2) [a] [] q] [] pos) (tLenSetA ta) := by
  refine ⟨fun pins s σ H Q I h => ?_⟩
  refine Call_ (ld_blt I hg hm boot_len ?_)
  refine PyProof.Rows.callWith_builtin1 (PyProof.Rows.args_cons ?_ nb) nb rfl
  refine Call_ (ld_blt I hg2 hm2 boot_set ?_)
  refine PyProof.Rows.callWith_type1 (PyProof.Rows.args_cons (thn (ha.run pins s σ H _ I h) fun v s1 ⟨x, H1, I1, r1, q1⟩ => PyProof.Rows.args_nil ?_) na) na rfl
  obtain ⟨l, ns, rfl, hq, hl, q1⟩ := q1
  cases r1
  obtain ⟨its, r, pl, hz⟩ := I1.list (.inl hq)
  have hlen : its.toArray.size = ns.length := by rw [List.size_toArray, ← r.length, List.length_map]
  refine call_set_list (I1.ok.hd hc) pl.isList (by simpa using RZ.intsAre_vals r) (by rw [hlen]; unfold scanBound; omega) fun h' tk hS hk => ?_
  refine PyProof.Rows.args_nil ?_
  rw [hlen, met_all] at hS
  obtain ⟨o, es, ep, t, ho, hex, hd, _, _, _, hf, hn⟩ := hS
  have I2 : Inv X pins σ H1 { s1 with heap := h', toks := tk } := I1.kept fun b o e => hk b o (Heap.lt_size e) e
  exact call_len_set ho hex hd hf (by have := firstMet_length_le (fun i => ns.getD i 0) ns.length; rw [met_all] at this; rw [hn]; omega) ⟨.int (dedI ns).length, H1, I2.tok _, ⟨_, by rw [hn]⟩, q1⟩
section
variable {ι : Type} {X : ι → Cx} {W : WX} {M is : List Nat} {m : Mds} {e a b o c : Expr} {k kr ka kb ko kc : Kd} {pos p p2 q : Pos} {ga gb go gc : Ev0 → Res D}
theorem fe_lenSet (A : Amb Γ X) (hg : ∀ i, Gl (X i) "len") (hm : ∀ i, (X i).mg "len" = none) (hg2 : ∀ i, Gl (X i) "set") (hm2 : ∀ i, (X i).mg "set" = none) (h : FE Γ X W M e ka ga)
    (na : ∀ i, starEach [e] (X i).env = (false, eval e (X i).env) :: starEach [] (X i).env) (nb : ∀ i, starEach [.Call (.Name "set" p2) [e] [] q] (X i).env = (false, eval (.Call (.Name "set" p2) [e] [] q) (X i).env) :: starEach [] (X i).env) :
    FE Γ X W M (.Call (.Name "len" p) [.Call (.Name "set" p2) [e] [] q] [] pos) .sh (g1 ga lenSetD) := by
  obtain ⟨t, pe, ev⟩ := h.ob.ex
  refine ⟨_, fun i => pe_lenSetA (hg i) (hm i) (hg2 i) (hm2 i) (pe i) (A.calm i) (na i) (nb i), fun F0 H0 F H σ ρ Q E hp => ?_⟩
  show t σ H _
  refine EvG.bind ev RE.mono E hp fun d F1 H1 x e1 E1 r1 hp1 => ?_
  replace r1 : Rep Γ H1 x d := r1
  unfold lenSetD at hp1
  split at hp1
  · split at hp1
    · split at hp1
      · rename_i ns hn hl
        cases r1 with
        | @lst p xs ds h1 r =>
          have := ints_rep r hn
          subst this
          exact ⟨p, ns, rfl, .inl h1, hl, hp1 F1 H1 _ (Ext.refl E1.same) (.int _)⟩
      · exact hp1.elim
    · exact hp1.elim
  · exact hp1.elim
end
def kItemsL : D → Res D
  | .dK ds => .ok (.lst (ds.map itemD))
  | _ => .no
@[simp] theorem gItemsL_e (i : Nat) (ρ : Ev0) : gItemsL i ρ = (gVar i ρ).bind kItemsL := by
  unfold gItemsL
  congr 1
@[simp] theorem kItemsL_e (ds : List (Key × D)) : kItemsL (.dK ds) = .ok (.lst (ds.map itemD)) := (rfl)
@[simp] theorem kPut2_e (i : Nat) (ds : List (Key × D)) (v : D) (ρ : Ev0) (y : Int) : kPut2 i ds v ρ (.int y) = if ds.length < sizeLine then .nx (ρ.set i (some (.dK (putD ds (.inl y) v)))) else .no := (rfl)
end FL
namespace FL
open PySem PySem.Spec PyProof.Rows L2
variable {Γ : Gx}
/-! ### x in xs -/
def inL (neg : Bool) (a : D) (xs : List D) : Res D := match py a, pyL xs with
  | some p, some ps => if SeqAt.shaped p = true ∧ SeqAt.shaped (.list ps) = true then .ok (.bl (if neg = true then !ps.any fun z => PyData.eqv z p else ps.any fun z => PyData.eqv z p)) else .no
  | _, _ => .no
def inT0 (neg : Bool) (a : D) (xs : List D) : Res D := match a, intsOf xs with
  | .int i, some ns => .ok (.bl (if neg = true then !decide (i ∈ ns) else decide (i ∈ ns)))
  | _, _ => .no
def inSq (neg : Bool) (a b : D) : Res D := match b with
  | .lst xs => inL neg a xs
  | .tup xs => inT0 neg a xs
  | _ => .no
def rInA (Γ : Gx) (neg : Bool) : R2 := fun x y H Q => (∃ d ds, Dp Γ.K H x d ∧ Dp Γ.K H y (.list ds) ∧ SeqAt.shaped d = true ∧ SeqAt.shaped (.list ds) = true ∧ Q (.bl (if neg = true then !ds.any fun z => PyData.eqv z d else ds.any fun z => PyData.eqv z d)) H) ∨ rIn Γ.K neg x y H Q
theorem opInA {Y : Cx} (h : Y.K = Γ.K) (u : Y.A.units + 128 < cLine) : OpR Y (compareOp .In) (rInA Γ false) := by
  intro pins s σ H x y v u' Q I rx ry hh
  rcases hh with ⟨d, ds, h1, h2, h3, h4, h5⟩ | hh
  · rw [← h] at h1 h2
    exact op_inD (by omega) pins s σ H x y v u' Q I rx ry ⟨d, ds, h1, h2, h3, h4, h5⟩
  · rw [← h] at hh
    exact op_in_seq pins s σ H x y v u' Q I rx ry hh
theorem opNotInA {Y : Cx} (h : Y.K = Γ.K) (u : Y.A.units + 128 < cLine) : OpR Y (compareOp .NotIn) (rInA Γ true) := by
  intro pins s σ H x y v u' Q I rx ry hh
  rcases hh with ⟨d, ds, h1, h2, h3, h4, h5⟩ | hh
  · rw [← h] at h1 h2
    exact op_notInD (by omega) pins s σ H x y v u' Q I rx ry ⟨d, ds, h1, h2, h3, h4, h5⟩
  · rw [← h] at hh
    exact op_notIn_seq pins s σ H x y v u' Q I rx ry hh
theorem inV_ints (i : Int) : ∀ ns : List Int, inV (.int i) (ns.map V.int) = decide (i ∈ ns)
  | [] => rfl
  | n :: ns => by
    have ih := inV_ints i ns
    unfold inV at ih ⊢
    rw [List.map_cons, List.any_cons, ih, Bool.eq_iff_iff]
    show ((n == i) || decide (i ∈ ns)) = true ↔ _
    rw [Bool.or_eq_true, decide_eq_true_eq, beq_iff_eq, decide_eq_true_eq, List.mem_cons]
    exact or_congr eq_comm Iff.rfl
theorem flat_ints (ns : List Int) : (ns.map V.int).all flatV = true := by
  rw [List.all_eq_true]
  intro x hx
  obtain ⟨n, _, rfl⟩ := List.mem_map.mp hx
  rfl
theorem os_in {neg : Bool} : OpS Γ (rInA Γ neg) .ob .ob .sh (inSq neg) := fun W F H σ Q x y a b s ra rb hp => by
  unfold inSq at hp
  split at hp
  · unfold inL at hp
    split at hp
    · rename_i p ps e1 e2
      split at hp
      · rename_i h
        have rb : Rep Γ H y (.lst _) := rb
        exact .inl ⟨p, ps, py_rep ra e1, py_rep (p := .list ps) rb (by unfold py; rw [e2]; rfl), h.1, h.2, hp F H _ (Ext.refl s) (.bl _)⟩
      · exact hp.elim
    · exact hp.elim
  · unfold inT0 at hp
    split at hp
    · rename_i i ns e
      have rb : Rep Γ H y (.tup _) := rb
      have hx := Rep.int_inv ra
      subst hx
      cases rb with
      | @tup p xs ds h1 r =>
        have := ints_rep r e
        subst this
        refine .inr ⟨p, ns.map V.int, rfl, .inr h1.seqT, rfl, flat_ints ns, ?_⟩
        rw [inV_ints]
        exact hp F H _ (Ext.refl s) (.bl _)
    · exact hp.elim
  · exact hp.elim
section
variable {ι : Type} {X : ι → Cx} {W : WX} {M is : List Nat} {m : Mds} {e a b o c : Expr} {k kr ka kb ko kc : Kd} {pos p p2 q : Pos} {ga gb go gc : Ev0 → Res D}
theorem fe_in (A : Amb Γ X) (ha : FE Γ X W M a ka ga) (hb : FE Γ X W M b kb gb) (hm : behindInMarks .In b = false) : FE Γ X W M (.Compare a [.In] [b] pos) .sh (g2 ga gb (inSq false)) := fe_cmp (r := fun Γ => rInA Γ false) (fun i => opInA (A.K i) (A.un2 i)) os_in ha.ob hb.ob hm
theorem fe_notin (A : Amb Γ X) (ha : FE Γ X W M a ka ga) (hb : FE Γ X W M b kb gb) (hm : behindInMarks .NotIn b = false) : FE Γ X W M (.Compare a [.NotIn] [b] pos) .sh (g2 ga gb (inSq true)) := fe_cmp (r := fun Γ => rInA Γ true) (fun i => opNotInA (A.K i) (A.un2 i)) os_in ha.ob hb.ob hm
/-! ### max, min, any, all of a list -/
def maxL : List Int → Int
  | [] => 0
  | n :: ns => ns.foldl max n
def minL : List Int → Int
  | [] => 0
  | n :: ns => ns.foldl min n
theorem foldl_max : ∀ (ns : List Int) (a : Int), (ns.foldl max a = a ∨ ns.foldl max a ∈ ns) ∧ a ≤ ns.foldl max a ∧ ∀ y ∈ ns, y ≤ ns.foldl max a
  | [], a => ⟨.inl rfl, Int.le_refl _, fun y h => by cases h⟩
  | n :: ns, a => by
    obtain ⟨h1, h2, h3⟩ := foldl_max ns (max a n)
    rw [List.foldl_cons]
    refine ⟨?_, by omega, fun y hy => ?_⟩
    · rcases h1 with h1 | h1
      · rw [h1]
        by_cases h : a ≤ n
        · exact .inr (by rw [Int.max_eq_right h]; exact List.mem_cons_self)
        · exact .inl (by omega)
      · exact .inr (List.mem_cons_of_mem _ h1)
    · rcases List.mem_cons.mp hy with rfl | hy
      · omega
      · exact h3 y hy
theorem foldl_min : ∀ (ns : List Int) (a : Int), (ns.foldl min a = a ∨ ns.foldl min a ∈ ns) ∧ ns.foldl min a ≤ a ∧ ∀ y ∈ ns, ns.foldl min a ≤ y
  | [], a => ⟨.inl rfl, Int.le_refl _, fun y h => by cases h⟩
  | n :: ns, a => by
    obtain ⟨h1, h2, h3⟩ := foldl_min ns (min a n)
    rw [List.foldl_cons]
    refine ⟨?_, by omega, fun y hy => ?_⟩
    · rcases h1 with h1 | h1
      · rw [h1]
        by_cases h : n ≤ a
        · exact .inr (by rw [Int.min_eq_right h]; exact List.mem_cons_self)
        · exact .inl (by omega)
      · exact .inr (List.mem_cons_of_mem _ h1)
    · rcases List.mem_cons.mp hy with rfl | hy
      · omega
      · exact h3 y hy
theorem maxL_is {ns : List Int} (h : 0 < ns.length) : maxL ns ∈ ns ∧ ∀ y ∈ ns, y ≤ maxL ns := by
  cases ns with
  | nil => cases h
  | cons n ns =>
    obtain ⟨h1, h2, h3⟩ := foldl_max ns n
    refine ⟨?_, fun y hy => ?_⟩
    · rcases h1 with h1 | h1
      · exact List.mem_cons.mpr (.inl h1)
      · exact List.mem_cons_of_mem _ h1
    · rcases List.mem_cons.mp hy with rfl | hy
      · exact h2
      · exact h3 y hy
theorem minL_is {ns : List Int} (h : 0 < ns.length) : minL ns ∈ ns ∧ ∀ y ∈ ns, minL ns ≤ y := by
  cases ns with
  | nil => cases h
  | cons n ns =>
    obtain ⟨h1, h2, h3⟩ := foldl_min ns n
    refine ⟨?_, fun y hy => ?_⟩
    · rcases h1 with h1 | h1
      · exact List.mem_cons.mpr (.inl h1)
      · exact List.mem_cons_of_mem _ h1
    · rcases List.mem_cons.mp hy with rfl | hy
      · exact h2
      · exact h3 y hy
def maxLD : D → Res D
  | .lst xs => match intsOf xs with
    | some ns => if 0 < ns.length then .ok (.int (maxL ns)) else .no
    | none => .no
  | _ => .no
def minLD : D → Res D
  | .lst xs => match intsOf xs with
    | some ns => if 0 < ns.length then .ok (.int (minL ns)) else .no
    | none => .no
  | _ => .no
theorem fe_maxL (A : Amb Γ X) (T : C1x X "max" e pos) (h : FE Γ X W M e ka ga) : FE Γ X W M (.Call (.Name "max" p) [e] [] pos) .sh (g1 ga maxLD) :=
  fe_cb1 (r := fun Γ => rMax Γ.K) (fun i => by have := cr_max (X := X i) (A.calm i); rw [A.K i] at this; exact this) (fun W F H σ Q x d s r hp => by
    unfold maxLD at hp
    split at hp
    · split at hp
      · split at hp
        · rename_i ns hn hl
          replace r : Rep Γ H x (.lst _) := r
          cases r with
          | lst h r =>
            refine ⟨_, ns, rfl, by rw [← ints_rep r hn]; exact .inl (.inl h), hl, fun m hm hle => ?_⟩
            obtain ⟨q1, q2⟩ := maxL_is hl
            have : m = maxL ns := Int.le_antisymm (q2 m hm) (hle _ q1)
            rw [this]
            exact hp F H _ (Ext.refl s) (.int _)
        · exact hp.elim
      · exact hp.elim
    · exact hp.elim) T.g T.m (by decide +kernel) h.ob T.he T.hpl
theorem fe_minL (A : Amb Γ X) (T : C1x X "min" e pos) (h : FE Γ X W M e ka ga) : FE Γ X W M (.Call (.Name "min" p) [e] [] pos) .sh (g1 ga minLD) :=
  fe_cb1 (r := fun Γ => rMin Γ.K) (fun i => by have := cr_min (X := X i) (A.calm i); rw [A.K i] at this; exact this) (fun W F H σ Q x d s r hp => by
    unfold minLD at hp
    split at hp
    · split at hp
      · split at hp
        · rename_i ns hn hl
          replace r : Rep Γ H x (.lst _) := r
          cases r with
          | lst h r =>
            refine ⟨_, ns, rfl, by rw [← ints_rep r hn]; exact .inl (.inl h), hl, fun m hm hle => ?_⟩
            obtain ⟨q1, q2⟩ := minL_is hl
            have : m = minL ns := Int.le_antisymm (hle _ q1) (q2 m hm)
            rw [this]
            exact hp F H _ (Ext.refl s) (.int _)
        · exact hp.elim
      · exact hp.elim
    · exact hp.elim) T.g T.m (by decide +kernel) h.ob T.he T.hpl
def blsOf : List D → Option (List Bool)
  | [] => some []
  | .bl i :: r => (blsOf r).map (i :: ·)
  | _ => none
theorem bls_rep {F : Hp} : ∀ {vs : List V} {ds : List D} {ns : List Bool}, RepL Γ F vs ds → blsOf ds = some ns → vs = ns.map V.bl
  | _, _, _, .nil, e => by cases e; rfl
  | _, d :: ds, ns, .cons h r, e => by
    cases h with
    | bl i =>
      unfold blsOf at e
      cases q : blsOf ds with
      | none => rw [q] at e; cases e
      | some ms =>
        rw [q] at e
        cases e
        rw [bls_rep r q]
        rfl
    | _ => cases e
def anyLD : D → Res D
  | .lst xs => match blsOf xs with
    | some bs => .ok (.bl (bs.any id))
    | none => .no
  | _ => .no
def allLD : D → Res D
  | .lst xs => match blsOf xs with
    | some bs => .ok (.bl (bs.all id))
    | none => .no
  | _ => .no
theorem fe_anyL (A : Amb Γ X) (T : C1x X "any" e pos) (h : FE Γ X W M e ka ga) : FE Γ X W M (.Call (.Name "any" p) [e] [] pos) .sh (g1 ga anyLD) :=
  fe_cb1 (r := fun Γ => rAny Γ.K) (fun i => by have := cr_any (X := X i) (A.calm i); rw [A.K i] at this; exact this) (fun W F H σ Q x d s r hp => by
    unfold anyLD at hp
    split at hp
    · split at hp
      · rename_i ns hn
        replace r : Rep Γ H x (.lst _) := r
        cases r with
        | lst h r => exact ⟨_, ns, rfl, by rw [← bls_rep r hn]; exact .inl (.inl h), hp F H _ (Ext.refl s) (.bl _)⟩
      · exact hp.elim
    · exact hp.elim) T.g T.m (by decide +kernel) h.ob T.he T.hpl
theorem fe_allL (A : Amb Γ X) (T : C1x X "all" e pos) (h : FE Γ X W M e ka ga) : FE Γ X W M (.Call (.Name "all" p) [e] [] pos) .sh (g1 ga allLD) :=
  fe_cb1 (r := fun Γ => rAll Γ.K) (fun i => by have := cr_all (X := X i) (A.calm i); rw [A.K i] at this; exact this) (fun W F H σ Q x d s r hp => by
    unfold allLD at hp
    split at hp
    · split at hp
      · rename_i ns hn
        replace r : Rep Γ H x (.lst _) := r
        cases r with
        | lst h r => exact ⟨_, ns, rfl, by rw [← bls_rep r hn]; exact .inl (.inl h), hp F H _ (Ext.refl s) (.bl _)⟩
      · exact hp.elim
    · exact hp.elim) T.g T.m (by decide +kernel) h.ob T.he T.hpl
/-! ### enumerate(xs); range(i, j, c) -/
def enumD (n : Nat) : List D → List D
  | [] => []
  | d :: ds => .tup [.int (n : Nat), d] :: enumD (n + 1) ds
theorem enumD_len (ds : List D) : ∀ n, (enumD n ds).length = ds.length := by
  induction ds with
  | nil => intro n; rfl
  | cons d ds ih => intro n; show (enumD (n + 1) ds).length + 1 = _; rw [ih]; rfl
theorem enumD_get : ∀ (ds : List D) (n i : Nat), (enumD n ds)[i]? = (ds[i]?).map fun d => .tup [.int ((n + i : Nat) : Int), d]
  | [], n, i => by simp [enumD]
  | d :: ds, n, 0 => by simp [enumD]
  | d :: ds, n, i + 1 => by
    show (enumD (n + 1) ds)[i]? = _
    rw [enumD_get ds (n + 1) i, List.getElem?_cons_succ, show n + 1 + i = n + (i + 1) by omega]
def gEnum (g : Ev0 → Res D) : Ev0 → Res (List D) := fun ρ => (g ρ).bind fun d => match d with
  | .lst ds => .ok (enumD 0 ds)
  | .scr ns => .ok (enumD 0 (ns.map .int))
  | _ => .no
theorem ite_R {F : Hp} {a : Addr} {xs : List V} {ds : List D} (h : SqL Γ.K F a xs) (r : RepL Γ F xs ds) : ItR Γ F (Ite Γ.K a) (enumD 0 ds) := fun i F1 H1 s1 s2 => by
  have h1 : SqL Γ.K H1 a xs := (s1.trans s2).seq h
  refine ⟨fun d hd => ?_, fun hl => ⟨xs, h1, by rw [r.length]; rw [enumD_len] at hl; exact hl⟩⟩
  rw [enumD_get, Option.map_eq_some_iff] at hd
  obtain ⟨d0, hd0, rfl⟩ := hd
  obtain ⟨v, hv, rv⟩ := r.get hd0
  refine ⟨⟨xs, v, h1, hv⟩, fun x H2 y => ?_⟩
  obtain ⟨T, x0, rfl, hT, rfl, y⟩ := y
  have := y xs h1
  rw [hv] at this
  cases this
  refine ⟨upd F1 T (.tup [.int (i : Nat), v]), Ext.new s2 hT, .tup (.inl ⟨rfl, upd_same⟩) ?_⟩
  rw [Nat.zero_add]
  exact .cons (.int _) (.cons (rv.mono (s1.trans (same_new (s2.free hT)))) .nil)
theorem fi_enum (A : Amb Γ X) {elts : List Expr} {kk : Nat} {tpos : Pos} (hg : ∀ i, Gl (X i) "enumerate") (hm : ∀ i, (X i).mg "enumerate" = none) (h : FE Γ X W M e .sh ga) (hs : ∀ i, starEach [e] (X i).env = [(false, eval e (X i).env)]) (hs2 : ∀ i, starEach [e] (X i).env = (false, eval e (X i).env) :: starEach [] (X i).env) :
    FI Γ X W M (.Tuple elts kk tpos) (.Call (.Name "enumerate" p) [e] [] pos) (gEnum ga) := by
  obtain ⟨t, pe, ev⟩ := h.ex
  refine ⟨iEnum Γ.K (tCons t tNil), fun i => by have := pi_enum (p := p) (pos := pos) (elts := elts) (kk := kk) (tpos := tpos) (hg i) (hm i) (pa_one (pe i) (hs2 i)) (hs i); rw [A.K i] at this; exact this, fun F0 H0 F H σ ρ Q E hp => ?_⟩
  show t σ H _
  refine EvG.bind ev (fun _ _ _ _ _ _ _ h => h) E hp fun d F1 H1 x e1 E1 r1 hp1 => ?_
  replace r1 : Rep Γ F1 x d := r1
  cases r1 with
  | lst h r => exact ⟨_, _, rfl, .inl (.inl (E1.same _ _ h)), hp1 F1 H1 _ (Ext.refl E1.same) (ite_R (.inl (.inl h)) r)⟩
  | scr h => exact ⟨_, _, rfl, E1.same.seq h, hp1 F1 H1 _ (Ext.refl E1.same) (ite_R h (RepL.ints _))⟩
  | _ => exact hp1.elim
def rng3 (i j c : Int) : List D := (List.range (Builtin.Range.rangeSize i j c).toNat).map fun k => .int (i + (k : Nat) * c)
def rg3Ok (i j c : Int) : Bool := decide (0 < c) && (decide (c.natAbs < 1073741824) && Builtin.Range.small i j c)
def kRng3b (i : Int) (j : Int) : D → Res (List D)
  | .int c => if rg3Ok i j c = true then .ok (rng3 i j c) else .no
  | _ => .no
def kRng3a (gc : Ev0 → Res D) (ρ : Ev0) (i : D) (j : D) : Res (List D) := match i, j with
  | .int i, .int j => (gc ρ).bind (kRng3b i j)
  | _, _ => .no
def kRng3 (gb gc : Ev0 → Res D) (ρ : Ev0) (i : D) : Res (List D) := (gb ρ).bind (kRng3a gc ρ i)
def gRng3 (ga gb gc : Ev0 → Res D) : Ev0 → Res (List D) := fun ρ => (ga ρ).bind (kRng3 gb gc ρ)
theorem itc_R {F : Hp} (lo c : Int) (n : Nat) : ItR Γ F (Itc lo c n) ((List.range n).map fun k => .int (lo + (k : Nat) * c)) := fun i F1 H1 s1 s2 => by
  refine ⟨fun d hd => ?_, fun hl => by rw [List.length_map, List.length_range] at hl; exact hl⟩
  rw [List.getElem?_map] at hd
  by_cases hi : i < n
  · rw [List.getElem?_range hi] at hd
    cases hd
    refine ⟨hi, fun x H2 y => ?_⟩
    obtain ⟨e, y⟩ := y
    subst e y
    exact ⟨F1, Ext.refl s2, .int _⟩
  · rw [List.getElem?_eq_none (by rw [List.length_range]; omega)] at hd
    cases hd
theorem fi_rng3 {tg : Expr} (hg : ∀ i, Gl (X i) "range") (hm : ∀ i, (X i).mg "range" = none) (ha : FE Γ X W M a .sh ga) (hb : FE Γ X W M b .sh gb) (hc : FE Γ X W M c .sh gc)
    (hs : ∀ i, starEach [a, b, c] (X i).env = (false, eval a (X i).env) :: starEach [b, c] (X i).env) (hs2 : ∀ i, starEach [b, c] (X i).env = (false, eval b (X i).env) :: starEach [c] (X i).env) (hs3 : ∀ i, starEach [c] (X i).env = (false, eval c (X i).env) :: starEach [] (X i).env)
    (hpl : ∀ i, (backTo pos (starEach [b, c] (X i).env)).any (·.1) = false) : FI Γ X W M tg (.Call (.Name "range" p) [a, b, c] [] pos) (gRng3 ga gb gc) := by
  obtain ⟨ta, pa, ea⟩ := ha.ex
  obtain ⟨tb, pb, eb⟩ := hb.ex
  obtain ⟨tc, pc, ec⟩ := hc.ex
  refine ⟨_, fun i => pi_range3 (hg i) (hm i) (pa_cons (pa i) (pa_cons (pb i) (pa_one (pc i) (hs3 i)) (hs2 i)) (hs i)) (hs i) (hpl i), fun F0 H0 F H σ ρ Q E hp => ?_⟩
  show ta σ H _
  refine EvG.bind ea (fun _ _ _ _ _ _ _ h => h) E hp fun d F1 H1 x e1 E1 r1 hp1 => ?_
  show tb σ H1 _
  refine EvG.bind eb (fun _ _ _ _ _ _ _ h => h) E1 hp1 fun d2 F2 H2 y e2 E2 r2 hp2 => ?_
  show tc σ H2 _
  unfold kRng3a at hp2
  split at hp2
  · rename_i i j
    refine EvG.bind ec (fun _ _ _ _ _ _ _ h => h) E2 hp2 fun d3 F3 H3 z e3 E3 r3 hp3 => ?_
    unfold kRng3b at hp3
    split at hp3
    · split at hp3
      · rename_i k hk
        unfold rg3Ok at hk
        simp only [Bool.and_eq_true, decide_eq_true_eq] at hk
        have hs : Builtin.Range.rangeSize i j k = ((Builtin.Range.rangeSize i j k).toNat : Int) := PyProof.Rows.rangeSize_toNat i j k
        refine ⟨i, j, k, (Builtin.Range.rangeSize i j k).toNat, ?_, ⟨by omega, hk.2.1, hk.2.2, hs⟩, hp3 F3 H3 _ (Ext.refl E3.same) (itc_R i k _)⟩
        have q1 : x = .int i := Rep.int_inv r1
        have q2 : y = .int j := Rep.int_inv r2
        have q3 : z = .int k := Rep.int_inv r3
        rw [q1, q2, q3]
      · exact hp3.elim
    · exact hp3.elim
  · exact hp2.elim
end
/-! ### the pure side -/
@[simp] theorem inSq_l (neg : Bool) (a : D) (xs : List D) : inSq neg a (.lst xs) = inL neg a xs := (rfl)
@[simp] theorem inSq_t (neg : Bool) (a : D) (xs : List D) : inSq neg a (.tup xs) = inT0 neg a xs := (rfl)
@[simp] theorem maxLD_map {α : Type} (f : α → Int) (xs : List α) : maxLD (.lst (xs.map fun x => D.int (f x))) = if 0 < xs.length then .ok (.int (maxL (xs.map f))) else .no := by
  have : (xs.map fun x => D.int (f x)) = (xs.map f).map .int := by rw [List.map_map]; rfl
  rw [this]
  show (match intsOf ((xs.map f).map .int) with | some ns => if 0 < ns.length then Res.ok (D.int (maxL ns)) else .no | none => .no) = _
  rw [intsOf_map]
  simp
@[simp] theorem minLD_map {α : Type} (f : α → Int) (xs : List α) : minLD (.lst (xs.map fun x => D.int (f x))) = if 0 < xs.length then .ok (.int (minL (xs.map f))) else .no := by
  have : (xs.map fun x => D.int (f x)) = (xs.map f).map .int := by rw [List.map_map]; rfl
  rw [this]
  show (match intsOf ((xs.map f).map .int) with | some ns => if 0 < ns.length then Res.ok (D.int (minL ns)) else .no | none => .no) = _
  rw [intsOf_map]
  simp
theorem blsOf_map : ∀ ns : List Bool, blsOf (ns.map .bl) = some ns
  | [] => rfl
  | n :: ns => by
    rw [List.map_cons]
    unfold blsOf
    rw [blsOf_map ns]
    rfl
@[simp] theorem anyLD_map {α : Type} (f : α → Bool) (xs : List α) : anyLD (.lst (xs.map fun x => D.bl (f x))) = .ok (.bl (xs.any f)) := by
  have : (xs.map fun x => D.bl (f x)) = (xs.map f).map .bl := by rw [List.map_map]; rfl
  rw [this]
  show (match blsOf ((xs.map f).map .bl) with | some bs => Res.ok (D.bl (bs.any id)) | none => .no) = _
  rw [blsOf_map]
  simp
@[simp] theorem allLD_map {α : Type} (f : α → Bool) (xs : List α) : allLD (.lst (xs.map fun x => D.bl (f x))) = .ok (.bl (xs.all f)) := by
  have : (xs.map fun x => D.bl (f x)) = (xs.map f).map .bl := by rw [List.map_map]; rfl
  rw [this]
  show (match blsOf ((xs.map f).map .bl) with | some bs => Res.ok (D.bl (bs.all id)) | none => .no) = _
  rw [blsOf_map]
  simp
def kEnum : D → Res (List D)
  | .lst ds => .ok (enumD 0 ds)
  | .scr ns => .ok (enumD 0 (ns.map .int))
  | _ => .no
@[simp] theorem gEnum_e (g : Ev0 → Res D) (ρ : Ev0) : gEnum g ρ = (g ρ).bind kEnum := by
  unfold gEnum
  congr 1
@[simp] theorem kEnum_l (ds : List D) : kEnum (.lst ds) = .ok (enumD 0 ds) := (rfl)
@[simp] theorem kEnum_s (ns : List Int) : kEnum (.scr ns) = .ok (enumD 0 (ns.map .int)) := (rfl)
@[simp] theorem gRng3_e (ga gb gc : Ev0 → Res D) (ρ : Ev0) : gRng3 ga gb gc ρ = (ga ρ).bind (kRng3 gb gc ρ) := (rfl)
@[simp] theorem kRng3_e (gb gc : Ev0 → Res D) (ρ : Ev0) (i : D) : kRng3 gb gc ρ i = (gb ρ).bind (kRng3a gc ρ i) := (rfl)
@[simp] theorem kRng3a_e (gc : Ev0 → Res D) (ρ : Ev0) (i j : Int) : kRng3a gc ρ (.int i) (.int j) = (gc ρ).bind (kRng3b i j) := (rfl)
@[simp] theorem kRng3b_e (i j c : Int) : kRng3b i j (.int c) = if rg3Ok i j c = true then .ok (rng3 i j c) else .no := (rfl)
theorem eqv_same {n : Nat} {a : D} {p : PyData} (hn : n ≤ 64) (h : Dat n a) (hp : py a = some p) : PyData.eqv p p = true := by
  have := eqD_same false hn h
  unfold eqD at this
  rw [hp] at this
  dsimp only at this
  split at this
  · simpa using this
  · cases this
theorem pyL_map {α : Type} {enc : α → D} {f : α → PyData} (h : ∀ x, py (enc x) = some (f x)) : ∀ xs : List α, pyL (xs.map enc) = some (xs.map f)
  | [] => rfl
  | x :: xs => by
    rw [List.map_cons, List.map_cons]
    unfold pyL
    rw [h x, pyL_map h xs]
/-- x in xs, of one kind of data -/
theorem inL_map {α : Type} [DecidableEq α] {enc : α → D} {f : α → PyData} {n : Nat} (hn : n + 1 ≤ 64) (hd : ∀ x, Dat n (enc x)) (hf : ∀ x, py (enc x) = some (f x)) (hi : ∀ x y, enc x = enc y → x = y) (neg : Bool) (a : α) (xs : List α) :
    inL neg (enc a) (xs.map enc) = .ok (.bl (if neg = true then !decide (a ∈ xs) else decide (a ∈ xs))) := by
  have hl : Dat (n + 1) (.lst (xs.map enc)) := fun x hx => by
    obtain ⟨y, _, rfl⟩ := List.mem_map.mp hx
    exact hd y
  have hpl : py (.lst (xs.map enc)) = some (.list (xs.map f)) := by
    unfold py
    rw [pyL_map hf]
    rfl
  have s1 : SeqAt.shaped (f a) = true := by
    obtain ⟨p, e1, e2, e3⟩ := dat_py n _ (hd a)
    rw [hf a] at e1
    cases e1
    show ((f a).canLay0 && decide ((f a).depth ≤ 64)) = true
    rw [e2, decide_eq_true (by omega)]; rfl
  have s2 : SeqAt.shaped (.list (xs.map f)) = true := by
    obtain ⟨p, e1, e2, e3⟩ := dat_py (n + 1) _ hl
    rw [hpl] at e1
    cases e1
    show ((PyData.list (xs.map f)).canLay0 && decide ((PyData.list (xs.map f)).depth ≤ 64)) = true
    rw [e2, decide_eq_true (by omega)]; rfl
  unfold inL
  rw [hf a, pyL_map hf]
  dsimp only
  rw [if_pos ⟨s1, s2⟩]
  have e : (xs.map f).any (fun z => PyData.eqv z (f a)) = decide (a ∈ xs) := by
    rw [Bool.eq_iff_iff, List.any_eq_true, decide_eq_true_eq]
    constructor
    · rintro ⟨z, hz, e⟩
      obtain ⟨y, hy, rfl⟩ := List.mem_map.mp hz
      have := hi _ _ (dat_eq n _ _ _ _ (hd y) (hd a) (hf y) (hf a) e)
      rw [← this]
      exact hy
    · intro h
      exact ⟨f a, List.mem_map.mpr ⟨a, h, rfl⟩, eqv_same (by omega) (hd a) (hf a)⟩
  rw [e]
end FL
namespace FL
open PySem PySem.Spec PyProof.Rows L2
variable {Γ : Gx}
section
variable {ι : Type} {X : ι → Cx} {W : WX} {M : List Nat} {e a b c o : Expr} {k ka kb kc ko : Kd} {pos : Pos} {ga gb go : Ev0 → Res D}
/-! ### in, as a test -/
theorem ft_in (A : Amb Γ X) (ha : FE Γ X W M a ka ga) (hb : FE Γ X W M b kb gb) (hm : behindInMarks .In b = false) : FT Γ X W M (.Compare a [.In] [b] pos) (gT (g2 ga gb (inSq false))) := ft_cmp (r := fun Γ => rInA Γ false) (fun i => opInA (A.K i) (A.un2 i)) os_in ha.ob hb.ob hm
theorem ft_notin (A : Amb Γ X) (ha : FE Γ X W M a ka ga) (hb : FE Γ X W M b kb gb) (hm : behindInMarks .NotIn b = false) : FT Γ X W M (.Compare a [.NotIn] [b] pos) (gT (g2 ga gb (inSq true))) := ft_cmp (r := fun Γ => rInA Γ true) (fun i => opNotInA (A.K i) (A.un2 i)) os_in ha.ob hb.ob hm
theorem ft_din (A : Amb Γ X) (ha : FE Γ X W M a ka ga) (ho : FE Γ X W M o ko go) (hm : ∀ i : Nat, behindInMarks .In o = false) (hk : ko ≠ .ob := by intro z; cases z) : FT Γ X W M (.Compare a [.In] [o] pos) (gT (gInD false ga go)) := by
  obtain ⟨ta, pa, ea⟩ := ha.ob.ex
  obtain ⟨to, po, eo⟩ := (ho.ov hk).ex
  exact ⟨_, fun i => pt_cmp (pc_din (by have := A.un i; omega) (pa i) (po i)) (hm 0), ev_test (ev_dinA (neg := false) ea eo)⟩
theorem ft_dnotin (A : Amb Γ X) (ha : FE Γ X W M a ka ga) (ho : FE Γ X W M o ko go) (hm : ∀ i : Nat, behindInMarks .NotIn o = false) (hk : ko ≠ .ob := by intro z; cases z) : FT Γ X W M (.Compare a [.NotIn] [o] pos) (gT (gInD true ga go)) := by
  obtain ⟨ta, pa, ea⟩ := ha.ob.ex
  obtain ⟨to, po, eo⟩ := (ho.ov hk).ex
  exact ⟨_, fun i => pt_cmp (pc_dnotin (by have := A.un i; omega) (pa i) (po i)) (hm 0), ev_test (ev_dinA (neg := true) ea eo)⟩
/-! ### list(range(n)) -/
def lrgD : D → Res D
  | .int n => if 0 ≤ n ∧ n ≤ 16777216 then .ok (.lst (rngD 0 n.toNat)) else .no
  | _ => .no
theorem rngs_rep (F : Hp) (lo : Int) : ∀ ks : List Nat, RepL Γ F (ks.map fun i => V.int (lo + (i : Nat))) (ks.map fun i => D.int (lo + (i : Nat)))
  | [] => .nil
  | k :: ks => .cons (.int _) (rngs_rep F lo ks)
theorem fe_listRg {p2 pos2 p : Pos} (A : Amb Γ X) (C : C1x X "list" (.Call (.Name "range" p2) [a] [] pos2) pos) (C2 : C1x X "range" a pos2) (h : FE Γ X W M a k ga) :
    FE Γ X W M (.Call (.Name "list" p) [.Call (.Name "range" p2) [a] [] pos2] [] pos) .ow (g1 ga lrgD) := by
  obtain ⟨t, pe, ev⟩ := h.ob.ex
  refine ⟨tLstRg (tRg1 t), fun i => pe_listRg (A.calm i) (C.g i) (C.m i) (prg_1 (C2.g i) (C2.m i) (pe i) (C2.he i)) (C.he i), fun F0 H0 F H σ ρ Q E hp => ?_⟩
  show t σ H _
  refine EvG.bind ev RE.mono E hp fun d F1 H1 x e1 E1 r1 hp1 => ?_
  unfold lrgD at hp1
  split at hp1
  · rename_i n
    split at hp1
    · rename_i hn
      have r1 : Rep Γ H1 x (.int n) := r1
      have := Rep.int_inv r1
      subst this
      refine ⟨n, rfl, .of_le (by omega) hn.2 (by omega) hn.1, fun q hq => ?_⟩
      have e : (n - 0).toNat = n.toNat := by rw [Int.sub_zero]
      exact hp1 _ _ _ (Ext.own E1.same hq) ⟨q, _, rfl, hq, E1.same.free hq, upd_same, .lst (by unfold rgV rngD; rw [e]; exact rngs_rep _ _ _)⟩
    · exact hp1.elim
  · exact hp1.elim
@[simp] theorem lrgD_e (n : Nat) : lrgD (.int (n : Nat)) = if n ≤ 16777216 then .ok (.lst ((List.range n).map fun i => D.int (i : Nat))) else .no := by
  show (if 0 ≤ (n : Int) ∧ (n : Int) ≤ 16777216 then Res.ok (D.lst (rngD 0 ((n : Int)).toNat)) else .no) = _
  have e : rngD 0 ((n : Int)).toNat = (List.range n).map fun i => D.int (i : Nat) := by
    unfold rngD
    rw [Int.toNat_natCast]
    exact List.map_congr_left fun i _ => by rw [Int.zero_add]
  rw [e]
  by_cases h : n ≤ 16777216
  · rw [if_pos h, if_pos ⟨by omega, by omega⟩]
  · rw [if_neg h, if_neg (by omega)]
end
end FL
namespace FL
open PySem PySem.Spec PyProof.Rows L2
variable {Γ : Gx}
/-! ### objects of own classes -/
theorem lookup_rep {F : Hp} : ∀ {fs : List (Str × V)} {ds : List (Str × D)}, fs.map (·.1) = ds.map (·.1) → RepL Γ F (fs.map (·.2)) (ds.map (·.2)) → ∀ f : Str, (∀ d, ds.lookup f = some d → ∃ v, fs.lookup f = some v ∧ Rep Γ F v d) ∧ (ds.lookup f = none → fs.lookup f = none)
  | [], [], _, _, f => ⟨fun d h => (by cases h), fun _ => rfl⟩
  | [], _ :: _, h, _, _ => by cases h
  | _ :: _, [], h, _, _ => by cases h
  | (g, v) :: fs, (g', e) :: ds, h, r, f => by
    obtain ⟨h1, h2⟩ := List.cons.inj h
    have h1 : g = g' := h1
    subst h1
    have r : RepL Γ F (v :: fs.map (·.2)) (e :: ds.map (·.2)) := r
    cases r with
    | cons rv rr =>
      obtain ⟨i1, i2⟩ := lookup_rep h2 rr f
      by_cases q : f = g
      · subst q
        refine ⟨fun d h => ?_, fun h => ?_⟩
        · rw [List.lookup_cons_self] at h
          cases h
          exact ⟨v, List.lookup_cons_self, rv⟩
        · rw [List.lookup_cons_self] at h
          cases h
      · have q' : (f == g) = false := beq_eq_false_iff_ne.mpr q
        rw [List.lookup_cons, List.lookup_cons, q']
        exact ⟨i1, i2⟩
/-- o.f, an attribute of an object of one of the classes cls -/
def fldD (cls : List Str) (f : Str) : D → Res D
  | .obj c fs => if cls.contains c = true then (match fs.lookup f with | some d => .ok d | none => .no) else .no
  | _ => .no
/-- what the classes are -/
def ClsOk (K : PySem.W.Frag) (ct : Str → Option Addr) (cls : List Str) (f : Str) : Prop := ∀ c ∈ cls, ∀ C, ct c = some C → Cls K C ∧ NoAttr K C f
section
variable {ι : Type} {X : ι → Cx} {W : WX} {M : List Nat} {e a b c o : Expr} {es : List Expr} {k ka kb kc ko : Kd} {pos p apos : Pos} {ga gb go : Ev0 → Res D} {gs : Ev0 → Res (List D)}
theorem fe_fld (A : Amb Γ X) (cls : List Str) {f : Str} (hc : ClsOk Γ.K Γ.ct cls f) (h : FE Γ X W M e .sh ga) (hb : ∀ i, attributeBase e f (X i).env (eval e (X i).env) = eval e (X i).env) : FE Γ X W M (.Attribute e f pos) .sh (g1 ga (fldD cls f)) := by
  obtain ⟨t, pe, ev⟩ := h.ex
  refine ⟨tFld Γ.K t f, fun i => by rw [← A.K i]; exact pe_fld (pe i) (hb i), fun F0 H0 F H σ ρ Q E hp => ?_⟩
  show t σ H _
  refine EvG.bind ev RE.mono E hp fun d F1 H1 x e1 E1 r1 hp1 => ?_
  unfold fldD at hp1
  split at hp1
  · rename_i c fs
    split at hp1
    · rename_i hcc
      split at hp1
      · rename_i d hl
        have r1 : Rep Γ F1 x (.obj c fs) := r1
        cases r1 with
        | @obj a C dx _ fv _ hF hct hk hr =>
          obtain ⟨v, hv, rv⟩ := (lookup_rep hk hr f).1 d hl
          obtain ⟨c1, c2⟩ := hc c (List.contains_iff_mem.mp hcc) C hct
          exact ⟨a, C, dx, fv, v, rfl, E1.same _ _ hF, c1, c2, hv, hp1 F1 H1 _ (Ext.refl E1.same) rv⟩
      · exact hp1.elim
    · exact hp1.elim
  · exact hp1.elim
/-! ### methods -/
/-- a method of a class, and what it is worth -/
def DefM (P : Program) (w : World) (K : PySem.W.Frag) (mg : Str → Option Value) (base : Heap) (ct : Str → Option Addr) (kk : Nat) (c m : Str) (n : Nat) (k : Kd) (g : List D → Res D) : Prop :=
  ∃ C f fd ps, ct c = some C ∧ Cls K C ∧ Meth K C m f ∧ FnOk P w K mg base (L2.CX P w) kk f fd ps (spF ⟨K, ct⟩ n k g) ∧ Binds K fd ps []
theorem DefM.mono {P : Program} {w : World} {K : PySem.W.Frag} {mg : Str → Option Value} {base : Heap} {ct : Str → Option Addr} {kk kk' : Nat} {c m : Str} {n : Nat} {k : Kd} {g : List D → Res D} (h : DefM P w K mg base ct kk c m n k g) (hk : kk ≤ kk') : DefM P w K mg base ct kk' c m n k g := by
  obtain ⟨C, f, fd, ps, h1, h2, h3, h4, h5⟩ := h
  exact ⟨C, f, fd, ps, h1, h2, h3, h4.mono hk, h5⟩
abbrev Tbl := Str → Option (List D → Res D)
def asObj (m : Str) (tb : Tbl) : D → Option (List D → Res D)
  | .obj c fs => if (fs.lookup m).isNone = true then tb c else none
  | _ => none
def kMeth (d : D) (g : List D → Res D) (ds : List D) : Res D := g (d :: ds)
def gMeth (m : Str) (tb : Tbl) (go : Ev0 → Res D) (gs : Ev0 → Res (List D)) : Ev0 → Res D := fun ρ => (go ρ).bind fun d => match asObj m tb d with
  | some g => (gs ρ).bind (kMeth d g)
  | none => .no
def tMethS (OK : Addr → Sp → Prop) (m : Str) (E : L2.St → XK) (ta : TE) (t : TA) : TE := fun σ H Q => ta σ H fun x H1 => ∃ a C dx fs sp, x = .ref a ∧ H1 a = some (.ins C dx fs) ∧ OK C sp ∧ fs.lookup m = none ∧ t σ H1 fun vs H2 => sp (x :: vs) H2 Q (E σ)
theorem pe_methS {X : Cx} {W : WX} {OK : Addr → Sp → Prop} {m : Str} {kk : Nat} {ta : TE} {t : TA} {pl : Sem Bool} (he : PE X o ta) (hOK : ∀ C sp, OK C sp → ∃ f fd ps, Cls X.K C ∧ Meth X.K C m f ∧ FnOk X.prog X.w X.K X.mg X.base (L2.CX X.prog X.w) kk f fd ps sp ∧ Binds X.K fd ps []) (hr : Room kk X.A) (tk : Takes X W) (ha : PA X (e :: es) t)
    (hst : starEach (e :: es) X.env = (false, eval e X.env) :: starEach es X.env) (hpl : (backTo pos (starEach es X.env)).any (·.1) = false)
    (ht : eval (.Call (.Attribute o m apos) (e :: es) [] pos) X.env = (do
      let ov ← eval o X.env
      standAt apos.atName
      let (f, first) ← holding [ov] (getMethod ov m pl)
      callWith pos f first (backTo pos (starEach (e :: es) X.env)) (backToKw pos (keywordEach [] X.env)))) :
    PE X (.Call (.Attribute o m apos) (e :: es) [] pos) (tMethS OK m (WE W) ta t) := by
  refine ⟨fun pins s σ H Q I h => ?_⟩
  refine PySem.W.methodCall_KW (pl := pl) (thn (he.run pins s σ H _ I h) fun u s1 ⟨x, H1, I1, rx, a, C, dx, fs, sp, ex, ea, ok, l, q⟩ => ?_) ht
  subst ex
  obtain rfl : u = Value.ref a := rx
  obtain ⟨f, fd, ps, c, hm, F, hb⟩ := hOK C sp ok
  refine getmeth_ok I1 ea c hm l ?_
  refine PySem.W.callWith_K (first := [.ref a]) (h₀ := X.base) I.ok.mod.kin hm.kp (thn (ha.run pos pins s1 σ H1 _ I1 q) fun us s2 ⟨vs, H2, I2, r, q2⟩ => ⟨I2.kIn, ?_⟩) hst hpl
  exact run_fnS (us := .ref a :: us) (vs := .ref a :: vs) F hr hb (passAt tk σ) I2 (.cons rfl r) q2
theorem pe_methS0 {X : Cx} {W : WX} {OK : Addr → Sp → Prop} {m : Str} {kk : Nat} {ta : TE} {pl : Sem Bool} (he : PE X o ta) (hOK : ∀ C sp, OK C sp → ∃ f fd ps, Cls X.K C ∧ Meth X.K C m f ∧ FnOk X.prog X.w X.K X.mg X.base (L2.CX X.prog X.w) kk f fd ps sp ∧ Binds X.K fd ps []) (hr : Room kk X.A) (tk : Takes X W)
    (ht : eval (.Call (.Attribute o m apos) [] [] pos) X.env = (do
      let ov ← eval o X.env
      standAt apos.atName
      let (f, first) ← holding [ov] (getMethod ov m pl)
      callWith pos f first (backTo pos (starEach [] X.env)) (backToKw pos (keywordEach [] X.env)))) :
    PE X (.Call (.Attribute o m apos) [] [] pos) (tMethS OK m (WE W) ta tNil) := by
  refine ⟨fun pins s σ H Q I h => ?_⟩
  refine PySem.W.methodCall_KW (pl := pl) (thn (he.run pins s σ H _ I h) fun u s1 ⟨x, H1, I1, rx, a, C, dx, fs, sp, ex, ea, ok, l, q⟩ => ?_) ht
  subst ex
  obtain rfl : u = Value.ref a := rx
  obtain ⟨f, fd, ps, c, hm, F, hb⟩ := hOK C sp ok
  refine getmeth_ok I1 ea c hm l ?_
  exact PySem.W.callWith_K0 (first := [.ref a]) I1.kIn hm.kp (run_fnS (us := [.ref a]) (vs := [.ref a]) F hr hb (passAt tk σ) I1 (.cons rfl .nil) q)
theorem ev_meth {n : Nat} {m : Str} {tb : Tbl} {ta : TE} {t : TA} (hn : ∀ ρ ds, gs ρ = .ok ds → ds.length + 1 = n) (ho : EvG Γ W M ta (RE Γ .sh) go) (ha : EvG Γ W M t (RA Γ) gs) :
    EvG Γ W M (tMethS (fun C sp => ∃ c g, Γ.ct c = some C ∧ tb c = some g ∧ sp = spF Γ n k g) m (WE W) ta t) (RE Γ k) (gMeth m tb go gs) := fun F0 H0 F H σ ρ Q E hp => by
  show ta σ H _
  refine EvG.bind ho RE.mono E hp fun d F1 H1 x e1 E1 r1 hp1 => ?_
  cases hob : asObj m tb d with
  | none =>
    rw [hob] at hp1
    exact hp1.elim
  | some g =>
    rw [hob] at hp1
    have hp1 : PostG Γ W F1 H1 σ (RE Γ k) ((gs ρ).bind (kMeth d g)) Q := hp1
    have r1 : Rep Γ F1 x d := r1
    cases r1 with
    | @obj a C dx c fv ds0 hF hct hk hr =>
      have hob : (if (ds0.lookup m).isNone = true then tb c else none) = some g := hob
      split at hob
      · rename_i hl
        have hl := Option.isNone_iff_eq_none.mp hl
        refine ⟨a, C, dx, fv, spF Γ n k g, rfl, E1.same _ _ hF, ⟨c, g, hct, hob, rfl⟩, (lookup_rep hk hr m).2 hl, ?_⟩
        refine ha F0 H0 F1 H1 σ ρ _ E1 ?_
        cases h : gs ρ with
        | ok ds =>
          rw [h] at hp1
          intro F2 H2 vs e2 r2
          have r2 : RepL Γ F2 vs ds := r2
          refine ⟨F2, .obj c ds0 :: ds, e2.i, .cons (.obj (e2.f _ _ hF) hct hk (hr.mono e2.f)) r2, hn ρ ds h, ?_⟩
          have q := PostG.mono RE.mono e2 hp1
          have q : PostG Γ W F2 H2 σ (RE Γ k) (g (.obj c ds0 :: ds)) Q := q
          show PostG Γ (fun cls d _ H' => W cls d σ H') F2 H2 [] (RE Γ k) (g (.obj c ds0 :: ds)) Q
          cases hg : g (.obj c ds0 :: ds) with
          | ok d => rw [hg] at q; exact q
          | ex c => rw [hg] at q; exact q
          | no => rw [hg] at q; exact q
        | ex c => rw [h] at hp1; exact hp1
        | no => rw [h] at hp1; exact hp1
      · cases hob
    | _ => cases hob
theorem fe_meth {n kk : Nat} {m : Str} {tb : Tbl} (A : Amb Γ X) (hD : ∀ i c g, tb c = some g → DefM (X i).prog (X i).w (X i).K (X i).mg (X i).base Γ.ct kk c m n k g) (hr : ∀ i, Room kk (X i).A) (tk : ∀ i, Takes (X i) W)
    (hn : ∀ ρ ds, gs ρ = .ok ds → ds.length + 1 = n) (ho : FE Γ X W M o .sh go) (ha : FA Γ X W M (e :: es) gs)
    (he : ∀ i, starEach (e :: es) (X i).env = (false, eval e (X i).env) :: starEach es (X i).env) (hpl : ∀ i, (backTo pos (starEach es (X i).env)).any (·.1) = false) {pl : Sem Bool}
    (ht : ∀ i, eval (.Call (.Attribute o m apos) (e :: es) [] pos) (X i).env = (do
      let ov ← eval o (X i).env
      standAt apos.atName
      let (f, first) ← holding [ov] (getMethod ov m pl)
      callWith pos f first (backTo pos (starEach (e :: es) (X i).env)) (backToKw pos (keywordEach [] (X i).env)))) :
    FE Γ X W M (.Call (.Attribute o m apos) (e :: es) [] pos) k (gMeth m tb go gs) := by
  obtain ⟨ta, po, eo⟩ := ho.ex
  obtain ⟨t, pe, ev⟩ := ha.ex
  refine ⟨_, fun i => pe_methS (kk := kk) (pl := pl) (po i) (fun C sp h => ?_) (hr i) (tk i) (pe i) (he i) (hpl i) (ht i), ev_meth (n := n) hn eo ev⟩
  obtain ⟨c, g, h1, h2, rfl⟩ := h
  obtain ⟨C', f, fd, ps, q1, q2, q3, q4, q5⟩ := hD i c g h2
  rw [h1] at q1
  cases q1
  have eΓ : (⟨(X i).K, Γ.ct⟩ : Gx) = Γ := by rw [A.K i]
  rw [eΓ] at q4
  exact ⟨f, fd, ps, q2, q3, q4, q5⟩
theorem fe_meth0 {n kk : Nat} {m : Str} {tb : Tbl} (A : Amb Γ X) (hD : ∀ i c g, tb c = some g → DefM (X i).prog (X i).w (X i).K (X i).mg (X i).base Γ.ct kk c m n k g) (hr : ∀ i, Room kk (X i).A) (tk : ∀ i, Takes (X i) W)
    (hn : 1 = n) (ho : FE Γ X W M o .sh go) {pl : Sem Bool}
    (ht : ∀ i, eval (.Call (.Attribute o m apos) [] [] pos) (X i).env = (do
      let ov ← eval o (X i).env
      standAt apos.atName
      let (f, first) ← holding [ov] (getMethod ov m pl)
      callWith pos f first (backTo pos (starEach [] (X i).env)) (backToKw pos (keywordEach [] (X i).env)))) :
    FE Γ X W M (.Call (.Attribute o m apos) [] [] pos) k (gMeth m tb go gNil) := by
  obtain ⟨ta, po, eo⟩ := ho.ex
  obtain ⟨t, pe, ev⟩ := (fa_nil (Γ := Γ) (X := X) (W := W) (M := M)).ex
  refine ⟨_, fun i => pe_methS0 (kk := kk) (pl := pl) (po i) (fun C sp h => ?_) (hr i) (tk i) (ht i), ev_meth (n := n) (t := tNil) (gs := gNil) (fun ρ ds h => by cases h; exact hn) eo (fun F0 H0 F H σ ρ Q E hp => hp F H [] (Ext.refl E.same) .nil)⟩
  obtain ⟨c, g, h1, h2, rfl⟩ := h
  obtain ⟨C', f, fd, ps, q1, q2, q3, q4, q5⟩ := hD i c g h2
  rw [h1] at q1
  cases q1
  have eΓ : (⟨(X i).K, Γ.ct⟩ : Gx) = Γ := by rw [A.K i]
  rw [eΓ] at q4
  exact ⟨f, fd, ps, q2, q3, q4, q5⟩
/-! ### making one -/
/-- __init__ of a new object: its fields by the data -/
def spI (Γ : Gx) (C : Addr) (n : Nat) (g : List D → Res (List (Str × D))) : Sp := fun vs H Q E => ∃ x dx vs' F ds H0, vs = .ref x :: vs' ∧ H = upd (upd H0 dx (.own x)) x (.ins C dx []) ∧ H0 x = none ∧ H0 dx = none ∧ dx ≠ x ∧ Same F H0 ∧ RepL Γ F vs' ds ∧ ds.length = n ∧
  (match g ds with
  | .ok fs => ∀ F' H' fv, Ext F H0 F' H' → H' x = some (.ins C dx fv) → F' x = none → fv.map (·.1) = fs.map (·.1) → RepL Γ F' (fv.map (·.2)) (fs.map (·.2)) → Q .non H'
  | .ex c => ∀ F' H' C', Ext F H0 F' H' → Γ.ct c = some C' → E (.ref C') none H'
  | .no => False)
def DefI (P : Program) (w : World) (K : PySem.W.Frag) (mg : Str → Option Value) (base : Heap) (ct : Str → Option Addr) (kk : Nat) (c : Str) (n : Nat) (g : List D → Res (List (Str × D))) : Prop :=
  ∃ C f fd ps, ct c = some C ∧ mg c = some (.ref C) ∧ Mk K C f ∧ FnOk P w K mg base (L2.CX P w) kk f fd ps (spI ⟨K, ct⟩ C n g) ∧ Binds K fd ps []
theorem DefI.ct {P : Program} {w : World} {K : PySem.W.Frag} {mg : Str → Option Value} {base : Heap} {ct : Str → Option Addr} {kk : Nat} {c : Str} {n : Nat} {g : List D → Res (List (Str × D))} (h : DefI P w K mg base ct kk c n g) : ∃ C, ct c = some C := let ⟨C, _, _, _, h, _⟩ := h; ⟨C, h⟩
def tMakeS (C : Addr) (sp : Sp) (E : L2.St → XK) (t : TA) : TE := fun σ H Q => t σ H fun vs H1 => ∀ x dx, H1 x = none → H1 dx = none → dx ≠ x →
  sp (.ref x :: vs) (upd (upd H1 dx (.own x)) x (.ins C dx [])) (fun v H2 => v = .non ∧ Q (.ref x) H2) (E σ)
theorem run_makeS {X : Cx} {k : Nat} {f C : Addr} {fd : FuncData} {ps : List Str} {sp : Sp} {E : XK} {pins : List (Addr × Obj)} {σ : L2.St} {H : Hp} {s : Shared} {Q : VK} {us : List Value} {vs : List V} (M : Mk X.K C f) (F : FnOk X.prog X.w X.K X.mg X.base (L2.CX X.prog X.w) k f fd ps sp) (hr : Room (k + 1) X.A) (hb : Binds X.K fd ps [])
    (hx : PassesAt (L2.CX X.prog X.w) X σ E) (I : Inv X pins σ H s) (r : Vals vs us)
    (h : ∀ x dx, H x = none → H dx = none → dx ≠ x → sp (.ref x :: vs) (upd (upd H dx (.own x)) x (.ins C dx [])) (fun v H2 => v = .non ∧ Q (.ref x) H2) E) :
    wpAny (model X.prog X.w) X.A (call (.ref C) us) (EP X pins σ Q) X.xe s := by
  have hq := h (s.heap.objs.size + 1) s.heap.objs.size (I.hok.fresh (Nat.le_succ _)) (I.hok.fresh (Nat.le_refl _)) (Nat.ne_of_lt (Nat.lt_succ_self _))
  have I2 := Inv.made (C := C) I
  have r2 : Vals (V.ref (s.heap.objs.size + 1) :: vs) (Value.ref (s.heap.objs.size + 1) :: us) := .cons rfl r
  have hl : (Value.ref (s.heap.objs.size + 1) :: us).length = ps.length := by
    have e := r2.length
    rw [F.len _ _ _ _ hq] at e
    exact e.symm
  have hb2 := hb _ (Value.ref (s.heap.objs.size + 1) :: us) I2.kIn (by rw [List.append_nil]; exact hl)
  rw [List.append_nil] at hb2
  refine wpAny_call (make_map (f := f) I.kIn M.makes M.init (beq_iff_eq.mp M.fn) (codeAny_mono (F.run _ X.stack _ _ ⟨Value.ref (s.heap.objs.size + 1) :: us, []⟩ (Value.ref (s.heap.objs.size + 1) :: us) _ _ E (hr.make C us [])
    (I2.env0.make C us []) hb2 r2 hq) fun r s' hq' => ?_))
  cases r with
  | error e => exact hx pins _ _ e s' I2 hq'
  | ok fl =>
    cases fl with
    | ret u =>
      obtain ⟨v, H', I3, rv, ev, q3⟩ := I2.after hq'
      subst ev
      exact ⟨rv, ⟨V.ref (s.heap.objs.size + 1), H', I3, rfl, q3⟩⟩
    | next => exact False.elim hq'
    | brk => exact False.elim hq'
    | cont => exact False.elim hq'
theorem pe_makeS {X : Cx} {k : Nat} {f C : Addr} {fd : FuncData} {ps : List Str} {sp : Sp} {E : L2.St → XK} {t : TA} {x : Str} (M : Mk X.K C f) (F : FnOk X.prog X.w X.K X.mg X.base (L2.CX X.prog X.w) k f fd ps sp) (hr : Room (k + 1) X.A) (hg : Gl X x) (hm : X.mg x = some (.ref C)) (hb : Binds X.K fd ps []) (hx : ∀ σ, PassesAt (L2.CX X.prog X.w) X σ (E σ))
    (ha : PA X (e :: es) t) (hdb : (x == ("__debug__" : Str)) = false) (he : starEach (e :: es) X.env = (false, eval e X.env) :: starEach es X.env) (hpl : (backTo pos (starEach es X.env)).any (·.1) = false) :
    PE X (.Call (.Name x p) (e :: es) [] pos) (tMakeS C sp E t) := by
  refine ⟨fun pins s σ H Q I h => ?_⟩
  refine wpAny_Call_Name_kw (ld_glob I hg hm ?_ hdb)
  refine PySem.W.callWith_K (h₀ := X.base) I.ok.mod.kin M.kp (thn (ha.run pos pins s σ H _ I h) fun us s1 ⟨vs, H1, I1, r, q⟩ => ⟨I1.kIn, ?_⟩) he hpl
  exact run_makeS M F hr hb (hx σ) I1 r q
def kMake (c : Str) (g : List D → Res (List (Str × D))) (ds : List D) : Res D := (g ds).bind fun fs => .ok (.obj c fs)
def gMake (c : Str) (g : List D → Res (List (Str × D))) (gs : Ev0 → Res (List D)) : Ev0 → Res D := fun ρ => (gs ρ).bind (kMake c g)
theorem fe_make {n kk : Nat} {x : Str} {g : List D → Res (List (Str × D))} (A : Amb Γ X) (hC : ∃ C, Γ.ct x = some C) (hD : ∀ i, DefI (X i).prog (X i).w (X i).K (X i).mg (X i).base Γ.ct kk x n g) (hr : ∀ i, Room (kk + 1) (X i).A) (hg : ∀ i, Gl (X i) x) (tk : ∀ i, Takes (X i) W)
    (hn : ∀ ρ ds, gs ρ = .ok ds → ds.length = n) (ha : FA Γ X W M (e :: es) gs) (he : ∀ i, starEach (e :: es) (X i).env = (false, eval e (X i).env) :: starEach es (X i).env) (hpl : ∀ i, (backTo pos (starEach es (X i).env)).any (·.1) = false) (hdb : (x == ("__debug__" : Str)) = false := by decide) :
    FE Γ X W M (.Call (.Name x p) (e :: es) [] pos) .sh (gMake x g gs) := by
  obtain ⟨C, hC⟩ := hC
  obtain ⟨t, pe, ev⟩ := ha.ex
  refine ⟨tMakeS C (spI Γ C n g) (WE W) t, fun i => ?_, fun F0 H0 F H σ ρ Q E hp => ?_⟩
  · obtain ⟨C', f, fd, ps, q1, q2, q3, q4, q5⟩ := hD i
    rw [hC] at q1
    cases q1
    have eΓ : (⟨(X i).K, Γ.ct⟩ : Gx) = Γ := by rw [A.K i]
    rw [eΓ] at q4
    exact pe_makeS q3 q4 (hr i) (hg i) q2 q5 (fun σ => passAt (tk i) σ) (pe i) hdb (he i) (hpl i)
  · show t σ H _
    unfold gMake at hp
    refine ev F0 H0 F H σ ρ _ E ?_
    cases h : gs ρ with
    | ex c => rw [h] at hp; exact hp
    | no => rw [h] at hp; exact hp
    | ok ds =>
      rw [h] at hp
      intro F1 H1 vs e1 r1 a dx ha hdx hne
      refine ⟨a, dx, vs, F1, ds, H1, rfl, rfl, ha, hdx, hne, e1.i, r1, hn ρ ds h, ?_⟩
      have q := PostG.mono RE.mono e1 hp
      have q : PostG Γ W F1 H1 σ (RE Γ .sh) ((g ds).bind fun fs => .ok (.obj x fs)) Q := q
      cases hgd : g ds with
      | ok fs =>
        rw [hgd] at q
        intro F' H' fv e2 hx hF hk hr
        have hF1 : F1 a = none := e1.i.free ha
        have e3 := Ext.freeze e2 ha hF hx
        exact ⟨rfl, q _ _ (.ref a) e3 (.obj upd_same hC hk (hr.mono (same_new hF)))⟩
      | ex c => rw [hgd] at q; exact q
      | no => rw [hgd] at q; exact q
end
end FL
namespace FL
open PySem PySem.Spec PyProof.Rows L2
variable {Γ : Gx}
/-! ### the body of __init__: guards and fields -/
abbrev IG := Ev0 → List (Str × D) → Res (List (Str × D))
/-- fields as they stand -/
def FldR (Γ : Gx) (F : Hp) (fv : List (Str × V)) (ds : List (Str × D)) : Prop := fv.map (·.1) = ds.map (·.1) ∧ RepL Γ F (fv.map (·.2)) (ds.map (·.2))
def PostI (Γ : Gx) (W : WX) (C : Addr) (F0 H0 : Hp) (σ : L2.St) (ρ : Ev0) (x dx : Addr) (r : Res (List (Str × D))) (D : Ends) : Prop := match r with
  | .ok ds => ∀ F' H' fv, EO Γ F0 H0 F' H' [] σ ρ → H' x = some (.ins C dx fv) → F' x = none → FldR Γ F' fv ds → D.nx σ H'
  | .ex c => ∀ F' H' C', Ext F0 H0 F' H' → Γ.ct c = some C' → W (.ref C') none σ H'
  | .no => False
def SvI (Γ : Gx) (W : WX) (C : Addr) (t : TS) (g : IG) : Prop := ∀ F0 H0 F H σ ρ x dx fv ds (D : Ends), EO Γ F0 H0 F H [] σ ρ → σ[0]? = some (some (.ref x)) → H x = some (.ins C dx fv) → H0 x = none → F x = none → FldR Γ F fv ds → PostI Γ W C F0 H0 σ ρ x dx (g ρ ds) D → t D σ H
structure IB {ι : Type} (Γ : Gx) (X : ι → Cx) (W : WX) (C : Addr) (sts : List Stmt) (g : IG) : Prop where
  ex : ∃ t, (∀ i, PSs (X i) sts t) ∧ SvI Γ W C t g
structure IS {ι : Type} (Γ : Gx) (X : ι → Cx) (W : WX) (C : Addr) (st : Stmt) (g : IG) : Prop where
  ex : ∃ t, (∀ i, PS (X i) st t) ∧ SvI Γ W C t g
def jNil : IG := fun _ ds => .ok ds
def jSeq (g g' : IG) : IG := fun ρ ds => (g ρ ds).bind (g' ρ)
def putDf (f : Str) (d : D) : List (Str × D) → List (Str × D)
  | [] => [(f, d)]
  | (g, x) :: r => if g = f then (g, d) :: r else (g, x) :: putDf f d r
def kSetF (f : Str) (ds : List (Str × D)) (d : D) : Res (List (Str × D)) := if ds.length < 1000 then .ok (putDf f d ds) else .no
def jSet (f : Str) (ge : Ev0 → Res D) : IG := fun ρ ds => (ge ρ).bind (kSetF f ds)
def kGrd (ds : List (Str × D)) (b : Bool) : Res (List (Str × D)) := if b = true then .no else .ok ds
def jGrd (gc : Ev0 → Res Bool) : IG := fun ρ ds => (gc ρ).bind (kGrd ds)
theorem putF_rep {F : Hp} {f : Str} {v : V} {d : D} (r : Rep Γ F v d) : ∀ {fv : List (Str × V)} {ds : List (Str × D)}, FldR Γ F fv ds → FldR Γ F (putF f v fv) (putDf f d ds)
  | [], [], _ => ⟨rfl, .cons r .nil⟩
  | [], _ :: _, h => by cases h.1
  | _ :: _, [], h => by cases h.1
  | (g, x) :: fv, (g', e) :: ds, h => by
    obtain ⟨h1, h2⟩ := h
    obtain ⟨h3, h4⟩ := List.cons.inj h1
    have h3 : g = g' := h3
    subst h3
    have h2 : RepL Γ F (x :: fv.map (·.2)) (e :: ds.map (·.2)) := h2
    cases h2 with
    | cons rx rr =>
      have e1 : putF f v ((g, x) :: fv) = if g = f then (g, v) :: fv else (g, x) :: putF f v fv := rfl
      have e2 : putDf f d ((g, e) :: ds) = if g = f then (g, d) :: ds else (g, e) :: putDf f d ds := rfl
      rw [e1, e2]
      by_cases q : g = f
      · rw [if_pos q, if_pos q]
        exact ⟨by rw [List.map_cons, List.map_cons, h4], .cons r rr⟩
      · rw [if_neg q, if_neg q]
        obtain ⟨i1, i2⟩ := putF_rep r ⟨h4, rr⟩
        exact ⟨by rw [List.map_cons, List.map_cons, i1], .cons rx i2⟩
theorem FldR.mono {F F' : Hp} {fv : List (Str × V)} {ds : List (Str × D)} (s : Same F F') (h : FldR Γ F fv ds) : FldR Γ F' fv ds := ⟨h.1, h.2.mono s⟩
theorem FldR.len {F : Hp} {fv : List (Str × V)} {ds : List (Str × D)} (h : FldR Γ F fv ds) : fv.length = ds.length := by
  have := congrArg List.length h.1
  rw [List.length_map, List.length_map] at this
  exact this
theorem ext_off {F H F' H' : Hp} (e : Ext F H F' H') {x : Addr} {o : HO} (hx : H x = some o) (hF : F x = none) (ho : ∀ ks : List Key, o ≠ .tup (ks.map kV) := by intro xs z; cases z) : F' x = none := by
  cases z : F' x with
  | none => rfl
  | some u =>
    rcases e.n _ _ z with ⟨w, y⟩ | y | ⟨xs, y⟩
    · rw [hF] at y; cases y
    · rw [hx] at y; cases y
    · rw [hx] at y; cases y; exact absurd rfl (ho _)
/-- a field is set -/
theorem EO.fld {F0 H0 F H : Hp} {σ : L2.St} {ρ : Ev0} (E : EO Γ F0 H0 F H [] σ ρ) {x : Addr} {o : HO} (h0 : H0 x = none) (hF : F x = none) : EO Γ F0 H0 F (L2.upd H x o) [] σ ρ where
  len := E.len
  ext := ⟨E.ext.f, fun a u z => by
    by_cases q : a = x
    · subst q; rw [h0] at z; cases z
    · rw [upd_ne q]; exact E.ext.h _ _ z, fun a u z => by
    by_cases q : a = x
    · subst q; rw [hF] at z; cases z
    · rw [upd_ne q]; exact E.ext.i _ _ z, E.ext.n⟩
  slot := fun i d h => by
    obtain ⟨v, h1, h2⟩ := E.slot i d h
    exact ⟨v, h1, h2⟩
  disj := E.disj
section
variable {ι : Type} {X : ι → Cx} {W : WX} {C : Addr} {e c o : Expr} {k : Kd} {pos p1 pos' : Pos} {ge : Ev0 → Res D} {gc : Ev0 → Res Bool} {st : Stmt} {rest : List Stmt} {g g' : IG}
theorem ib_nil : IB Γ X W C [] jNil := ⟨_, fun _ => pss_nil, fun F0 H0 F H σ ρ x dx fv ds D E s0 hx h0 hF hr hp => hp F H fv E hx hF hr⟩
theorem ib_cons (h1 : IS Γ X W C st g) (h2 : IB Γ X W C rest g') : IB Γ X W C (st :: rest) (jSeq g g') := by
  obtain ⟨t, p, s1⟩ := h1.ex
  obtain ⟨u, q, s2⟩ := h2.ex
  refine ⟨_, fun i => pss_cons (p i) (q i), fun F0 H0 F H σ ρ x dx fv ds D E s0 hx h0 hF hr hp => ?_⟩
  refine s1 F0 H0 F H σ ρ x dx fv ds { D with nx := u D } E s0 hx h0 hF hr ?_
  unfold jSeq at hp
  cases z : g ρ ds with
  | ok ds' =>
    rw [z] at hp
    exact fun F' H' fv' E' hx' hF' hr' => s2 F0 H0 F' H' σ ρ x dx fv' ds' D E' s0 hx' h0 hF' hr' hp
  | ex c => rw [z] at hp; exact hp
  | no => rw [z] at hp; exact hp
theorem is_set {f : Str} {x : Str} (hc : Cls Γ.K C ∧ NoAttr Γ.K C f) (hN : ∀ i, (X i).N[0]? = some x) (hv : ∀ i, Vis (X i).env.scope x) (he : FE Γ X W [] e .sh ge) (hs : ∀ i, swapsWith e (some (.Attribute (.Name x p1) f pos')) pos.line (X i).env = pure false) (hd : (x == ("__debug__" : Str)) = false := by decide) (hcd : (x == ("__classdict__" : Str)) = false := by decide) (hK : ∀ i, (X i).K = Γ.K) :
    IS Γ X W C (.Assign [.Attribute (.Name x p1) f pos'] e pos) (jSet f ge) := by
  obtain ⟨t, pe, ev⟩ := he.ex
  refine ⟨sFld Γ.K (tVar 0) t f, fun i => by rw [← hK i]; exact ps_fld (L2.pe_var (hN i) (hv i) hd hcd) (pe i) (hs i), fun F0 H0 F H σ ρ a dx fv ds D E s0 hx h0 hF hr hp => ?_⟩
  show t σ H _
  refine ev F0 H0 F H σ ρ _ E ?_
  unfold jSet at hp
  cases z : ge ρ with
  | ex c => rw [z] at hp; exact fun F' H' C' e1 q => hp F' H' C' (E.ext.trans e1) q
  | no => rw [z] at hp; exact hp
  | ok d =>
    rw [z] at hp
    intro F1 H1 v e1 r1
    have r1 : Rep Γ F1 v d := r1
    have hp : PostI Γ W C F0 H0 σ ρ a dx (if ds.length < 1000 then .ok (putDf f d ds) else .no) D := hp
    split at hp
    · rename_i hl
      have hF1 := ext_off e1 hx hF
      have hx1 := e1.h _ _ hx
      exact ⟨.ref a, s0, a, C, dx, fv, rfl, hx1, hc.1, hc.2, by rw [hr.len]; exact hl, hp F1 _ (putF f v fv) ((E.extend e1).fld h0 hF1) upd_same hF1 (putF_rep r1 (hr.mono e1.f))⟩
    · exact hp.elim
theorem is_grd {c : Expr} {st : Stmt} (hc : FT Γ X W [] c gc) : IS Γ X W C (.If c [st] [] pos) (jGrd gc) := by
  obtain ⟨t, pe, ev⟩ := hc.ex
  refine ⟨tIfS t tNever tNext, fun i => ps_if (pe i) (pss_one ps_never) pss_nil, fun F0 H0 F H σ ρ a dx fv ds D E s0 hx h0 hF hr hp => ?_⟩
  show t σ H _
  refine ev F0 H0 F H σ ρ _ E ?_
  unfold jGrd at hp
  cases z : gc ρ with
  | ex c => rw [z] at hp; exact fun F' H' C' e1 q => hp F' H' C' (E.ext.trans e1) q
  | no => rw [z] at hp; exact hp
  | ok b =>
    rw [z] at hp
    intro F1 H1 b' e1 r1
    have r1 : b' = b := r1
    subst r1
    cases b' with
    | true => exact hp.elim
    | false => exact hp F1 H1 fv (E.extend e1) (e1.h _ _ hx) (ext_off e1 hx hF) (hr.mono e1.f)
end
/-! ### __init__ as a promise -/
theorem eo_startI {F H0 H : Hp} {N : List Str} {x : Addr} {vs : List V} {ds : List D} (s : Same F H0) (sh : Same H0 H) (r : RepL Γ F vs ds) : EO Γ F H0 F H [] (L2.start N (.ref x :: vs)) (none :: (ds.map some ++ List.replicate (N.length - (ds.length + 1)) none)) := by
  have l := r.length
  refine ⟨by unfold L2.start; simp [l], ⟨Same.refl F, sh, s.trans sh, fun a o e => .inl ⟨o, e⟩⟩, fun i d h => ?_, fun i j p d e hij h1 => by cases h1⟩
  cases i with
  | zero => cases h
  | succ i =>
    rw [List.getElem?_cons_succ] at h
    have hi : i < ds.length := by
      cases z : decide (i < ds.length) with
      | true => exact of_decide_eq_true z
      | false =>
        have z := of_decide_eq_false z
        rw [List.getElem?_append_right (by rw [List.length_map]; omega), List.getElem?_replicate] at h
        split at h <;> cases h
    rw [List.getElem?_append_left (by rw [List.length_map]; exact hi), List.getElem?_map] at h
    cases hd : ds[i]? with
    | none => rw [hd] at h; cases h
    | some d' =>
      rw [hd] at h
      cases h
      obtain ⟨v, hv, rv⟩ := r.get hd
      refine ⟨v, ?_, rv⟩
      unfold L2.start
      rw [List.map_cons, List.cons_append, List.getElem?_cons_succ, List.getElem?_append_left (by rw [List.length_map, l]; exact hi), List.getElem?_map, hv]
      rfl
def initG (n : Nat) (g : IG) : List D → Res (List (Str × D)) := fun ds => g (none :: (ds.map some ++ List.replicate (n - (ds.length + 1)) none)) []
theorem mkInit {P : Program} {w : World} {K : PySem.W.Frag} {mg : Str → Option Value} {base : Heap} {ct : Str → Option Addr} {c qual : Str} {st : Stmt} {f C : Addr} {fd : FuncData} {N ps : List Str} {kk n : Nat} {g : IG} (Fn : Fun K "__init__" qual st f fd) (S : FnScope N ps (defScope st)) (hC : ct c = some C) (hm : mg c = some (.ref C)) (M : Mk K C f) (hb : Binds K fd ps []) (hn : ps.length = n + 1)
    (hbody : ∀ (cdv : Value) (A : Around) (outer : List Env) (s : Shared) (H : Hp) (E : XK), Room kk (A.deeper (envOfC qual (defScope st) s.heap.objs.size f cdv)) →
      Amb ⟨K, ct⟩ (fun _ : Unit => cxOf (L2.CX P w) P w K mg base N qual (defScope st) f cdv A outer s H E) →
      IB ⟨K, ct⟩ (fun _ : Unit => cxOf (L2.CX P w) P w K mg base N qual (defScope st) f cdv A outer s H E) (fun cls d _ H' => E cls d H') C (defBody st) g) :
    DefI P w K mg base ct (kk + 1) c n (initG N.length g) := by
  refine ⟨C, f, fd, ps, hC, hm, M, Fn.okX S (fun vs H Q E h => ?_) (fun cdv A outer s H vs Q E hr h => ?_), hb⟩
  · obtain ⟨x, dx, vs', F, ds, H0, rfl, _, _, _, _, _, r, hl, _⟩ := h
    rw [List.length_cons, r.length, hl, hn]
  · obtain ⟨t, p, sv⟩ := (hbody cdv A outer s H E hr (amb_def S hr)).ex
    refine ⟨t, p (), ?_⟩
    obtain ⟨x, dx, vs', F, ds, H0, rfl, rfl, hx, hdx, hne, sF, r, hl, hp⟩ := h
    have s1 : Same H0 (upd (upd H0 dx (.own x)) x (.ins C dx [])) := (same_new hdx).trans (same_new (by rw [upd_ne hne.symm]; exact hx))
    refine sv F H0 F _ (L2.start N (.ref x :: vs')) (none :: (ds.map some ++ List.replicate (N.length - (ds.length + 1)) none)) x dx [] [] _ (eo_startI sF s1 r) rfl upd_same hx (sF.free hx) ⟨rfl, .nil⟩ ?_
    unfold initG at hp
    cases z : g (none :: (ds.map some ++ List.replicate (N.length - (ds.length + 1)) none)) [] with
    | ok fs =>
      rw [z] at hp
      exact fun F' H' fv E' hx' hF' hr' => hp F' H' fv E'.ext hx' hF' hr'.1 hr'.2
    | ex c => rw [z] at hp; exact fun F' H' C' e q => hp F' H' C' e q
    | no => rw [z] at hp; exact hp
/-! ### a method as a promise -/
theorem mkMeth {P : Program} {w : World} {K : PySem.W.Frag} {mg : Str → Option Value} {base : Heap} {ct : Str → Option Addr} {c m : Str} {C f : Addr} {fd : FuncData} {ps : List Str} {kk n : Nat} {kr : Kd} {g : List D → Res D} (hC : ct c = some C) (cl : Cls K C) (me : Meth K C m f)
    (F : FnOk P w K mg base (L2.CX P w) kk f fd ps (spF ⟨K, ct⟩ n kr g)) (hb : Binds K fd ps []) : DefM P w K mg base ct kk c m n kr g := ⟨C, f, fd, ps, hC, cl, me, F, hb⟩
/-! ### the law, whatever the classes -/
def spL (K : PySem.W.Frag) : Sp := fun vs H Q _ => ∃ (a : Addr) (ns : List Int), vs = [.ref a] ∧ SqL K H a (ns.map V.int) ∧ ns.length ≤ 63 ∧ ∀ H', Q (.bl true) H'
theorem spL_of {K : PySem.W.Frag} {ct : Str → Option Addr} {g : List D → Res D} (h : ∀ ns : List Int, ns.length ≤ 63 → g [.scr ns] = .ok (.bl true)) (vs : List V) (H : Hp) (Q : VK) (E : XK) (z : spL K vs H Q E) : spF ⟨K, ct⟩ 1 .sh g vs H Q E := by
  obtain ⟨a, ns, rfl, hS, hl, k⟩ := z
  refine ⟨H, [.scr ns], Same.refl H, .cons (.scr hS) .nil, rfl, ?_⟩
  rw [h ns hl]
  intro F' H' b _ r
  have := Rep.bl_inv r rfl
  subst this
  exact k H'
theorem spL_hs {K : PySem.W.Frag} (H : Hp) (a : Addr) (ns : List Int) (hl : ns.length ≤ 63) (hS : SqL K H a (ns.map V.int)) : spL K [.ref a] H (fun v _ => v = .bl true) fun _ _ _ => False := ⟨a, ns, rfl, hS, hl, fun _ => rfl⟩
end FL
namespace FL
open PySem PySem.Spec PyProof.Rows L2
theorem fin_of {P : Program} {w : World} {K : PySem.W.Frag} {mg : Str → Option Value} {fa : Addr} {n : Nat} {x : Str} {g : List D → Res D} (h : ∀ ns : List Int, ns.length ≤ 63 → g [.scr ns] = .ok (.bl true))
    (z : ∃ fd : FuncData, (∀ (s : Shared) (v : Value), BindsTo s fd ⟨[v], []⟩ [(x, v)]) ∧ ∀ base : Heap, K.In base → base.Ns mainGlobals mg → ∃ ct, FnOk P w K mg base (L2.CX P w) n fa fd [x] (spF ⟨K, ct⟩ 1 .sh g)) :
    ∃ fd : FuncData, (∀ (s : Shared) (v : Value), BindsTo s fd ⟨[v], []⟩ [(x, v)]) ∧ ∀ base : Heap, K.In base → base.Ns mainGlobals mg → FnOk P w K mg base (L2.CX P w) n fa fd [x] (spL K) := by
  obtain ⟨fd, h1, h2⟩ := z
  refine ⟨fd, h1, fun base a b => ?_⟩
  obtain ⟨ct, F⟩ := h2 base a b
  exact F.imp fun vs H Q E q => spL_of h vs H Q E q
/-! ### simp -/
def kMe (m : Str) (tb : Tbl) (gs : Ev0 → Res (List D)) (ρ : Ev0) (d : D) : Res D := match asObj m tb d with
  | some g => (gs ρ).bind (kMeth d g)
  | none => .no
@[simp] theorem gMeth_e (m : Str) (tb : Tbl) (go : Ev0 → Res D) (gs : Ev0 → Res (List D)) (ρ : Ev0) : gMeth m tb go gs ρ = (go ρ).bind (kMe m tb gs ρ) := (rfl)
theorem kMe_e {m : Str} {tb : Tbl} {gs : Ev0 → Res (List D)} {ρ : Ev0} {d : D} {g : List D → Res D} (h : asObj m tb d = some g) : kMe m tb gs ρ d = (gs ρ).bind (kMeth d g) := by
  unfold kMe; rw [h]
@[simp] theorem kMeth_e (d : D) (g : List D → Res D) (ds : List D) : kMeth d g ds = g (d :: ds) := (rfl)
@[simp] theorem gMake_e (c : Str) (g : List D → Res (List (Str × D))) (gs : Ev0 → Res (List D)) (ρ : Ev0) : gMake c g gs ρ = (gs ρ).bind (kMake c g) := (rfl)
@[simp] theorem kMake_e (c : Str) (g : List D → Res (List (Str × D))) (ds : List D) : kMake c g ds = (g ds).bind fun fs => .ok (.obj c fs) := (rfl)
@[simp] theorem jSeq_e (g g' : IG) (ρ : Ev0) (ds : List (Str × D)) : jSeq g g' ρ ds = (g ρ ds).bind (g' ρ) := (rfl)
@[simp] theorem jNil_e (ρ : Ev0) (ds : List (Str × D)) : jNil ρ ds = .ok ds := (rfl)
@[simp] theorem jSet_e (f : Str) (ge : Ev0 → Res D) (ρ : Ev0) (ds : List (Str × D)) : jSet f ge ρ ds = (ge ρ).bind (kSetF f ds) := (rfl)
@[simp] theorem jGrd_e (gc : Ev0 → Res Bool) (ρ : Ev0) (ds : List (Str × D)) : jGrd gc ρ ds = (gc ρ).bind (kGrd ds) := (rfl)
@[simp] theorem kGrd_f (ds : List (Str × D)) : kGrd ds false = .ok ds := (rfl)
@[simp] theorem kSetF_0 (f : Str) (d : D) : kSetF f [] d = .ok [(f, d)] := (rfl)
theorem kSetF_1 {f g : Str} (d x : D) (h : g ≠ f) : kSetF f [(g, x)] d = .ok [(g, x), (f, d)] := by
  show (if (1 : Nat) < 1000 then Res.ok (putDf f d [(g, x)]) else .no) = _
  rw [if_pos (by decide)]
  show Res.ok (if g = f then _ else _) = _
  rw [if_neg h]
  rfl
end FL
namespace FL
open PySem PySem.Spec PyProof.Rows L2
variable {Γ : Gx}
/-! ### min of four numbers -/
theorem args_min4 (a b c d : Value) : argsOk "min" ⟨[a, b, c, d], []⟩ := by unfold argsOk; kernel_rfl
section
variable {prog : Program} {w : World} {A : Around} {E : Value → Shared → Prop} {s : Shared}
theorem call_min_four {a b c d : Value} {Q : Value → Shared → Prop}
    (h : wpAny (model prog w) A.in1 (pyIter (.ref s.heap.objs.size)) (fun it s₂ => ∃ I fp wr n P St bt, it = .ref I ∧ Walks prog w A.in1 I fp wr n P St ∧ St 0 s₂.heap ∧ (∀ b ∈ fp, b < s₂.heap.objs.size) ∧ 0 < n ∧ CmpOf prog w A.in1 .Lt P bt ∧
      ∀ v h' tk, P (argBest bt (n - 1)) v → (∀ b o, b ∉ wr → s₂.heap.get? b = some o → h'.get? b = some o) → Q v { s₂ with heap := h', toks := tk }) E
      { s with heap := s.heap.push { cls := .type "tuple", data := .seq #[a, b, c, d] } }) :
    wpAny (model prog w) A (call (.builtin "min") [a, b, c, d]) Q E s := by
  have hname : (toString "min" ++ toString ".loop" : String) = "min.loop" := by decide
  refine call_function_tree F.kind_min F.plain_min F.entry_min (args_min4 _ _ _ _) ?_
  show wpAny _ A.in1 (Builtin.Builtins.bindParams "min" ["key", "default"] 0 ⟨[], []⟩ >>= _) _ _ s
  refine wpAny_bind (wpAny_of_eq (show Builtin.Builtins.bindParams "min" ["key", "default"] 0 ⟨[], []⟩ = pure [none, none] from rfl) ?_)
  show wpAny _ A.in1 (newTuple [a, b, c, d] >>= _) _ _ s
  refine wpAny_bind (wpAny_newObj_type ?_)
  refine wpAny_bind (wpAny_mono h (fun it s₂ h₂ => ?_) fun _ _ e => e)
  obtain ⟨I, fp, wr, n, P, St, bt, rfl, W, hst, hfp, hn, hcmp, hQ⟩ := h₂
  refine wpAny_bind (wpAny_newObj_type ?_)
  have hSf : s₂.heap.objs.size ∉ fp := fun hm => Nat.lt_irrefl _ (hfp _ hm)
  rw [hname]
  refine wpAny_pure ⟨plainId_quiet F.plain_min_loop _, codeAny_min_loop_first W bt hcmp s₂.heap.objs.size hSf hn (W.frame _ _ _ hst fun b _ o e => Heap.get?_push_of_some _ e) (Heap.get?_push_size _ rfl) fun v h' tk hP hk => ?_⟩
  exact hQ v h' tk hP fun b o hbw e => hk b o hbw (Nat.ne_of_lt (Heap.lt_size e)) (Heap.get?_push_of_some _ e)
theorem min_four_ints {a b c d : Int} {t u x y : Tok} {Q : Value → Shared → Prop} (hh : A.handled = none)
    (h : ∀ h' tk t', (∀ d o, s.heap.get? d = some o → h'.get? d = some o) → Q (.int (min (min a b) (min c d)) t') { s with heap := h', toks := tk }) :
    wpAny (model prog w) A (call (.builtin "min") [.int a t, .int b u, .int c x, .int d y]) Q E s := by
  have hT : (s.heap.push { cls := .type "tuple", data := .seq #[.int a t, .int b u, .int c x, .int d y] }).IsTuple s.heap.objs.size (intItems #[(a, t), (b, u), (c, x), (d, y)]) := ⟨_, Heap.get?_push_size _ rfl, rfl, 0, by simp [intItems]⟩
  refine call_min_four (wpAny_pyIter_tuple hT ?_)
  have hsz : (s.heap.push { cls := .type "tuple", data := .seq #[.int a t, .int b u, .int c x, .int d y] }).objs.size = s.heap.objs.size + 1 := Heap.size_push ..
  refine ⟨_, [_, s.heap.objs.size], [_], _, _, _, _, rfl, Walks.tuple (A := A.in1) hh _ s.heap.objs.size (by rw [hsz]; exact Nat.ne_of_lt (Nat.lt_succ_self _)) (intItems #[(a, t), (b, u), (c, x), (d, y)]),
    ⟨⟨_, Heap.get?_push_size _ rfl, rfl, rfl⟩, hT.push _⟩, fun e hd => ?_, by simp [intItems], CmpOf.ints_lt (numAt #[(a, t), (b, u), (c, x), (d, y)]) (fun _ _ => intItems_at), fun v h' tk hP hk => ?_⟩
  · show e < ((s.heap.push _).push _).objs.size
    rw [Heap.size_push, hsz]
    rcases List.mem_cons.mp hd with rfl | hd
    · rw [hsz]; exact Nat.lt_succ_self _
    · rcases List.mem_cons.mp hd with rfl | hd
      · exact Nat.lt_succ_of_lt (Nat.lt_succ_self _)
      · cases hd
  · have hold : ∀ d o, s.heap.get? d = some o → h'.get? d = some o := fun d o e => by
      refine hk d o (fun hm => ?_) (Heap.get?_push_of_some _ (Heap.get?_push_of_some _ e))
      rcases List.mem_cons.mp hm with e1 | hm
      · have := Heap.lt_size e; rw [e1, hsz] at this; exact Nat.lt_irrefl _ (Nat.lt_of_succ_lt this)
      · cases hm
    have hsz2 : (intItems #[(a, t), (b, u), (c, x), (d, y)]).size - 1 = 3 := by simp [intItems]
    rw [hsz2] at hP
    obtain ⟨t', hv⟩ := intItems_at hP
    obtain ⟨h1, h2⟩ := argBest_lt (numAt #[(a, t), (b, u), (c, x), (d, y)]) 3
    generalize argBest (fun i j => decide (numAt #[(a, t), (b, u), (c, x), (d, y)] i < numAt #[(a, t), (b, u), (c, x), (d, y)] j)) 3 = k at *
    have n0 : numAt #[(a, t), (b, u), (c, x), (d, y)] 0 = a := rfl
    have n1 : numAt #[(a, t), (b, u), (c, x), (d, y)] 1 = b := rfl
    have n2 : numAt #[(a, t), (b, u), (c, x), (d, y)] 2 = c := rfl
    have n3 : numAt #[(a, t), (b, u), (c, x), (d, y)] 3 = d := rfl
    have g0 := h2 0 (by omega)
    have g1 := h2 1 (by omega)
    have g2 := h2 2 (by omega)
    have g3 := h2 3 (by omega)
    rw [n0] at g0; rw [n1] at g1; rw [n2] at g2; rw [n3] at g3
    have hk2 : k = 0 ∨ k = 1 ∨ k = 2 ∨ k = 3 := by omega
    have hm : numAt #[(a, t), (b, u), (c, x), (d, y)] k = min (min a b) (min c d) := by
      rcases hk2 with rfl | rfl | rfl | rfl
      · rw [n0] at *; omega
      · rw [n1] at *; omega
      · rw [n2] at *; omega
      · rw [n3] at *; omega
    rw [hv, hm]
    exact h h' tk t' hold
end
theorem call_min4 {X : Cx} (hc : X.calm = true) : CallR X (.builtin "min") (fun xs H Q => ∃ a b c d, xs = [.int a, .int b, .int c, .int d] ∧ Q (.int (min (min a b) (min c d))) H) := by
  intro pins s σ H xs us Q I r h
  obtain ⟨a, b, c, d, rfl, q⟩ := h
  cases r with
  | cons r1 r =>
    cases r with
    | cons r2 r =>
    cases r with
    | cons r3 r =>
    cases r with
    | cons r4 r =>
    cases r with
    | nil =>
    obtain ⟨t1, rfl⟩ := r1
    obtain ⟨t2, rfl⟩ := r2
    obtain ⟨t3, rfl⟩ := r3
    obtain ⟨t4, rfl⟩ := r4
    exact min_four_ints (I.ok.hd hc) fun h' tk t' k => ⟨.int _, H, I.kept k, ⟨t', rfl⟩, q⟩
def min4D : List D → Res D
  | [.int a, .int b, .int c, .int d] => .ok (.int (min (min a b) (min c d)))
  | _ => .no
def gMin4 (gs : Ev0 → Res (List D)) : Ev0 → Res D := fun ρ => (gs ρ).bind min4D
@[simp] theorem gMin4_e (gs : Ev0 → Res (List D)) (ρ : Ev0) : gMin4 gs ρ = (gs ρ).bind min4D := (rfl)
@[simp] theorem min4D_e (a b c d : Int) : min4D [.int a, .int b, .int c, .int d] = .ok (.int (min (min a b) (min c d))) := (rfl)
theorem fe_min4 {ι : Type} {X : ι → Cx} {W : WX} {M : List Nat} {e : Expr} {es : List Expr} {pos p : Pos} {gs : Ev0 → Res (List D)} (A : Amb Γ X) (hg : ∀ i, Gl (X i) "min") (hm : ∀ i, (X i).mg "min" = none) (ha : FA Γ X W M (e :: es) gs)
    (he : ∀ i, starEach (e :: es) (X i).env = (false, eval e (X i).env) :: starEach es (X i).env) (hpl : ∀ i, (backTo pos (starEach es (X i).env)).any (·.1) = false) :
    FE Γ X W M (.Call (.Name "min" p) (e :: es) [] pos) .sh (gMin4 gs) := by
  obtain ⟨t, pe, ev⟩ := ha.ex
  refine ⟨_, fun i => pe_callB (call_min4 (A.calm i)) (hg i) (hm i) (by decide +kernel) (pe i) (by decide) (by decide) (he i) (hpl i), fun F0 H0 F H σ ρ Q E hp => ?_⟩
  show t σ H _
  refine EvG.bind ev RE.mono E hp fun ds F1 H1 vs e1 E1 r1 hp1 => ?_
  have r1 : RepL Γ F1 vs ds := r1
  unfold min4D at hp1
  split at hp1
  · rename_i a b c d
    cases r1 with
    | cons r1 r =>
      cases r with
      | cons r2 r =>
        cases r with
        | cons r3 r =>
          cases r with
          | cons r4 r =>
            cases r with
            | nil => exact ⟨_, _, _, _, by rw [Rep.int_inv r1, Rep.int_inv r2, Rep.int_inv r3, Rep.int_inv r4], hp1 F1 H1 _ (Ext.refl E1.same) (.int _)⟩
  · exact hp1.elim
end FL
namespace FL
open PySem PySem.Spec PyProof.Rows L2
variable {Γ : Gx}
/-! ### isinstance(x, C) for an own class C -/
structure IsO (K : PySem.W.Frag) (C : Addr) : Prop where
  cl : Cls K C
  ha : PySem.W.findIn K (.ref C) "__class__" = some (some (.builtin "object.__class__"))
  hn : PySem.W.specialIn K (.builtin "object.__class__") "__get__" = some (some (.builtin "getset_descriptor.__get__"))
  htk : PySem.W.takesIn K (.builtin "object.__class__") = some true
  hm : PySem.W.mroIn K C (.type "object") = some true
def IsT (K : PySem.W.Frag) (mg : Str → Option Value) (ct : Str → Option Addr) (T : Str) (l : List (Str × Bool)) : Prop :=
  ∃ CT, mg T = some (.ref CT) ∧ ∀ c b, l.lookup c = some b → ∀ C, ct c = some C → IsO K C ∧ PySem.W.kitOne K (.ref C) (.ref CT) = some b
theorem kitOne_of {K : PySem.W.Frag} {C CT : Addr} {b : Bool} (hc : PySem.W.isClsIn K CT = true) (ht : PySem.W.typeIn K (.ref CT) = some (.type "type")) (hs : PySem.W.mroIn K CT (.ref CT) = some true) (hm : PySem.W.mroIn K C (.ref CT) = some b) : PySem.W.kitOne K (.ref C) (.ref CT) = some b := by
  unfold PySem.W.kitOne
  by_cases q : (Value.ref C == Value.ref CT) = true
  · rw [if_pos q]
    have q2 := beq_iff_eq.mp q
    have q3 : C = CT := by injection q2
    subst q3
    rw [hs] at hm
    exact hm
  · rw [if_neg q]
    show (if ((PySem.W.clsIn K CT).isSome && PySem.W.typeIn K (.ref CT) == some (.type "type")) = true then PySem.W.mroIn K C (.ref CT) else none) = some b
    have h2 : (PySem.W.clsIn K CT).isSome = true := hc
    rw [h2, ht, if_pos (by rfl)]
    exact hm
/-- the classes, and whether they are the one asked for, or below it -/
def isoG (l : List (Str × Bool)) : D → Res D
  | .obj c _ => match l.lookup c with
    | some b => .ok (.bl b)
    | none => .no
  | _ => .no
section
variable {ι : Type} {X : ι → Cx} {W : WX} {M : List Nat} {e : Expr} {ka : Kd} {pos p : Pos} {ga : Ev0 → Res D}
theorem fe_iso (A : Amb Γ X) (l : List (Str × Bool)) {x : Str} {p2 : Pos} {mg : Str → Option Value} (C : C2x X "isinstance" e (.Name x p2) pos) (hT : IsT Γ.K mg Γ.ct x l) (hmg : ∀ i, (X i).mg = mg) (hg : ∀ i, Gl (X i) x) (h : FE Γ X W M e ka ga) (hd : (x == ("__debug__" : Str)) = false := by decide) :
    FE Γ X W M (.Call (.Name "isinstance" p) [e, .Name x p2] [] pos) .sh (g1 ga (isoG l)) := by
  obtain ⟨t, pe, ev⟩ := h.ob.ex
  obtain ⟨CT, hm, hT⟩ := hT
  refine ⟨tCB (rIsi Γ.K) (tCons t (tCons (tC (.ref CT)) tNil)), fun i => pe_callB (call_isiA (A.K i)) (C.g i) (C.m i) (by decide +kernel) (pa_cons (pe i) (pa_one (pe_glob (hg i) (by rw [hmg i]; exact hm) rfl hd) (C.he2 i)) (C.he i)) (by decide) (by decide) (C.he i) (C.hpl i), fun F0 H0 F H σ ρ Q E hp => ?_⟩
  show t σ H _
  refine EvG.bind ev RE.mono E hp fun d F1 H1 v e1 E1 r1 hp1 => ?_
  have r1 : Rep Γ H1 v d := r1
  cases d with
  | obj c fs =>
    have hp1 : PostG Γ W F1 H1 σ (RE Γ .sh) (match l.lookup c with | some b => .ok (.bl b) | none => .no) Q := hp1
    cases hl : l.lookup c with
    | none => rw [hl] at hp1; exact hp1.elim
    | some b =>
      rw [hl] at hp1
      cases r1 with
      | @obj a C' dx _ fv _ hF hct hk hr =>
        obtain ⟨i, ko⟩ := hT c b hl C' hct
        exact ⟨.ref a, .ref CT, _, _, b, rfl, .own CT, .base (.ins hF i.cl i.ha i.hn i.htk i.hm), ko, hp1 F1 H1 _ (Ext.refl E1.same) (.bl b)⟩
  | _ => exact hp1.elim
end
end FL
namespace FL
open PySem PySem.Spec PyProof.Rows L2
variable {Γ : Gx}
/-! ### defs with defaults -/
/-- a def of the top with defaults, as it stands: the values dvs fill up -/
def DefAtD (K : PySem.W.Frag) (mg : Str → Option Value) (x qual : Str) (st : Stmt) (ps : List Str) (dvs : List V) : Prop := ∃ f fd, FunD K x qual (defArgs st) (defBody st) (defScope st) dvs [] f fd ∧ mg x = some (.ref f) ∧ Binds K fd ps [] ∧ ∃ ds, Vals dvs ds ∧ Binds K fd ps ds
/-- what it is worth where the defaults fill up -/
def DefD (P : Program) (w : World) (K : PySem.W.Frag) (mg : Str → Option Value) (base : Heap) (ct : Str → Option Addr) (kk : Nat) (x : Str) (n : Nat) (k : Kd) (g : List D → Res D) (dvs : List V) : Prop :=
  ∃ f fd ps, FnOk P w K mg base (L2.CX P w) kk f fd ps (spF ⟨K, ct⟩ n k g) ∧ mg x = some (.ref f) ∧ PySem.W.keepIn K (.ref f) = true ∧ ∃ ds, Vals dvs ds ∧ Binds K fd ps ds
theorem fn_okD {kr : Kd} {P : Program} {w : World} {K : PySem.W.Frag} {mg : Str → Option Value} {base : Heap} {ct : Str → Option Addr} {x qual : Str} {st : Stmt} {f : Addr} {fd : FuncData} {N ps : List Str} {kk : Nat} {M' : List Nat} {g : Ev0 → Out} {dvs : List V} (Fn : FunD K x qual (defArgs st) (defBody st) (defScope st) dvs [] f fd) (S : FnScope N ps (defScope st))
    (hbody : ∀ (cdv : Value) (A : Around) (outer : List Env) (s : Shared) (H : Hp) (E : XK), Room kk (A.deeper (envOfC qual (defScope st) s.heap.objs.size f cdv)) →
      FSs ⟨K, ct⟩ (fun _ : Unit => cxOf (L2.CX P w) P w K mg base N qual (defScope st) f cdv A outer s H E) (fun cls d _ H' => E cls d H') [] ⟨M', [], []⟩ kr (defBody st) g) :
    FnOk P w K mg base (L2.CX P w) (kk + 1) f fd ps (spF ⟨K, ct⟩ ps.length kr (fnG N.length kr g)) := by
  refine Fn.ok S (fun vs H Q E h => ?_) (fun cdv A outer s H vs Q E hr h => ?_)
  · obtain ⟨F, ds, _, r, hl, _⟩ := h
    rw [r.length, hl]
  · obtain ⟨t, p, sv⟩ := (hbody cdv A outer s H E hr).ex
    refine ⟨t, p (), ?_⟩
    obtain ⟨F, ds, s1, r, hl, hp⟩ := h
    refine sv F H F H (L2.start N vs) (ds.map some ++ List.replicate (N.length - ds.length) none) _ (eo_start s1 r) ?_
    unfold fnG at hp
    cases hb : g (ds.map some ++ List.replicate (N.length - ds.length) none) with
    | nx ρ =>
      rw [hb] at hp
      cases kr with
      | sh => exact fun F' H' σ' _ E' => hp F' H' _ E'.ext .non
      | ow => exact hp.elim
      | ov => exact hp.elim
      | ob => exact hp.elim
    | rt d => rw [hb] at hp; exact hp
    | bk ρ => rw [hb] at hp; exact hp.elim
    | ct ρ => rw [hb] at hp; exact hp.elim
    | ex c => rw [hb] at hp; exact fun F' H' σ' C e q => hp F' H' C e q
    | no => rw [hb] at hp; exact hp.elim
theorem mkDefD {P : Program} {w : World} {K : PySem.W.Frag} {mg : Str → Option Value} {base : Heap} {ct : Str → Option Addr} {x qual : Str} {st : Stmt} {N ps : List Str} {kk : Nat} {kr : Kd} {M' : List Nat} {g : Ev0 → Out} {dvs : List V} (F : DefAtD K mg x qual st ps dvs) (S : FnScope N ps (defScope st))
    (hbody : ∀ (f : Addr) (cdv : Value) (A : Around) (outer : List Env) (s : Shared) (H : Hp) (E : XK), Room kk (A.deeper (envOfC qual (defScope st) s.heap.objs.size f cdv)) →
      Amb ⟨K, ct⟩ (fun _ : Unit => cxOf (L2.CX P w) P w K mg base N qual (defScope st) f cdv A outer s H E) →
      FSs ⟨K, ct⟩ (fun _ : Unit => cxOf (L2.CX P w) P w K mg base N qual (defScope st) f cdv A outer s H E) (fun cls d _ H' => E cls d H') [] ⟨M', [], []⟩ kr (defBody st) g) :
    Def P w K mg base ct (kk + 1) x ps.length kr (fnG N.length kr g) ∧ DefD P w K mg base ct (kk + 1) x ps.length kr (fnG N.length kr g) dvs := by
  obtain ⟨f, fd, F1, hm, hb, hd⟩ := F
  have h := fn_okD F1 S fun cdv A outer s H E hr => hbody f cdv A outer s H E hr (amb_def S hr)
  exact ⟨⟨f, fd, ps, h, hm, F1.kp, hb⟩, ⟨f, fd, ps, h, hm, F1.kp, hd⟩⟩
def gCallD (dds : List D) (g : List D → Res D) (gs : Ev0 → Res (List D)) : Ev0 → Res D := fun ρ => (gs ρ).bind fun ds => g (ds ++ dds)
section
variable {ι : Type} {X : ι → Cx} {W : WX} {M : List Nat} {e : Expr} {k : Kd} {pos p : Pos} {es : List Expr}
theorem ev_callD {n m : Nat} {g : List D → Res D} {gs : Ev0 → Res (List D)} {t : TA} {dvs : List V} {dds : List D} (hd : ∀ F, RepL Γ F dvs dds) (hn : ∀ ρ ds, gs ρ = .ok ds → ds.length = m) (hm : m + dds.length = n) (ha : EvG Γ W M t (RA Γ) gs) : EvG Γ W M (tCallSD (spF Γ n k g) dvs (WE W) t) (RE Γ k) (gCallD dds g gs) := fun F0 H0 F H σ ρ Q E hp => by
  show t σ H _
  unfold gCallD at hp
  refine ha F0 H0 F H σ ρ _ E ?_
  cases h : gs ρ with
  | ok ds =>
    rw [h] at hp
    intro F1 H1 vs e1 r1
    refine ⟨F1, ds ++ dds, e1.i, RepL.append r1 (hd F1), by rw [List.length_append, hn ρ ds h]; exact hm, ?_⟩
    have q := PostG.mono RE.mono e1 hp
    show PostG Γ (fun cls d _ H' => W cls d σ H') F1 H1 [] (RE Γ k) (g (ds ++ dds)) Q
    cases hg : g (ds ++ dds) with
    | ok d =>
      have q : PostG Γ W F1 H1 σ (RE Γ k) (g (ds ++ dds)) Q := q
      rw [hg] at q
      exact q
    | ex c =>
      have q : PostG Γ W F1 H1 σ (RE Γ k) (g (ds ++ dds)) Q := q
      rw [hg] at q
      exact q
    | no =>
      have q : PostG Γ W F1 H1 σ (RE Γ k) (g (ds ++ dds)) Q := q
      rw [hg] at q
      exact q
  | ex c => rw [h] at hp; exact hp
  | no => rw [h] at hp; exact hp
theorem fe_callDf {n m kk : Nat} {x : Str} {g : List D → Res D} {gs : Ev0 → Res (List D)} {dvs : List V} (dds : List D) (A : Amb Γ X) (hD : ∀ i, DefD (X i).prog (X i).w (X i).K (X i).mg (X i).base Γ.ct kk x n k g dvs) (hd : ∀ F, RepL Γ F dvs dds) (hm : m + dds.length = n) (hr : ∀ i, Room kk (X i).A) (hg : ∀ i, Gl (X i) x) (tk : ∀ i, Takes (X i) W)
    (hn : ∀ ρ ds, gs ρ = .ok ds → ds.length = m) (ha : FA Γ X W M (e :: es) gs) (he : ∀ i, starEach (e :: es) (X i).env = (false, eval e (X i).env) :: starEach es (X i).env) (hpl : ∀ i, (backTo pos (starEach es (X i).env)).any (·.1) = false) (hdb : (x == ("__debug__" : Str)) = false := by decide) :
    FE Γ X W M (.Call (.Name x p) (e :: es) [] pos) k (gCallD dds g gs) := by
  obtain ⟨t, pe, ev⟩ := ha.ex
  refine ⟨_, fun i => ?_, ev_callD hd hn hm ev⟩
  obtain ⟨f, fd, ps, F, hmg, hk, ds, hv, hb⟩ := hD i
  have eΓ : (⟨(X i).K, Γ.ct⟩ : Gx) = Γ := by rw [A.K i]
  rw [eΓ] at F
  exact pe_callSD F (hr i) (hg i) hmg hk hb hv (fun σ => passAt (tk i) σ) (pe i) hdb (he i) (hpl i)
end
end FL
namespace FL
open PySem PySem.Spec PyProof.Rows L2
variable {Γ : Gx}
/-! ### raise C('..'), C an own class of errors -/
def veTail : List Value := [.type "ValueError", .type "Exception", .type "BaseException", .type "object"]
structure RaiseC (K : PySem.W.Frag) (mg : Str → Option Value) (ct : Str → Option Addr) (x : Str) (C : Addr) : Prop where
  ct : ct x = some C
  mg : mg x = some (.ref C)
  ex : PySem.W.excIn K C veTail "ValueError.__new__" = true
  kp : PySem.W.keepIn K (.ref C) = true
  b : PySem.W.subIn K (.ref C) (.type "BaseException") = some true
  t : PySem.W.typeIn K (.ref C) = some (.type "type")
def oRaise (c : Str) : Ev0 → Out := fun _ => .ex c
@[simp] theorem oRaise_e (c : Str) (ρ : Ev0) : oRaise c ρ = .ex c := (rfl)
section
variable {ι : Type} {X : ι → Cx} {W : WX} {M : List Nat} {m : Mds} {kr : Kd} {pos p p2 pos3 : Pos} {j : Nat} {msg x : Str} {mg : Str → Option Value}
theorem ps_raiseC {Y : Cx} {C : Addr} (hc : Y.calm = true) (tk : Takes Y W) (R : RaiseC Y.K Y.mg Γ.ct x C) (hg : Gl Y x) (hd : (x == ("__debug__" : Str)) = false) : PS Y (.Raise (some (.Call (.Name x p) [.Constant (.str msg) j p2] [] pos)) none pos3) (fun _ σ H => W (.ref C) none σ H) :=
  ps_raise hc tk (pmk_own PySem.F.excBase_ValueError R.ex R.mg R.kp (raises_own R.b R.t) hg hd)
/-- raise, C one of the classes of ct -/
theorem fs_raise (A : Amb Γ X) (R : ∃ C, RaiseC Γ.K mg Γ.ct x C) (hmg : ∀ i, (X i).mg = mg) (hg : ∀ i, Gl (X i) x) (tk : ∀ i, Takes (X i) W) (hd : (x == ("__debug__" : Str)) = false := by decide) :
    FS Γ X W M m kr (.Raise (some (.Call (.Name x p) [.Constant (.str msg) j p2] [] pos)) none pos3) (oRaise x) := by
  obtain ⟨C, R⟩ := R
  refine ⟨fun _ σ H => W (.ref C) none σ H, fun i => ps_raiseC (Γ := Γ) (A.calm i) (tk i) (by rw [A.K i, hmg i]; exact R) (hg i) hd, fun F0 H0 F H σ ρ D E hp => ?_⟩
  exact hp F H σ C E.ext R.ct
/-! ### a guard of __init__ that raises -/
def kGrdX (c : Str) (ds : List (Str × D)) (b : Bool) : Res (List (Str × D)) := if b = true then .ex c else .ok ds
def jGrdX (c : Str) (gc : Ev0 → Res Bool) : IG := fun ρ ds => (gc ρ).bind (kGrdX c ds)
theorem is_grdX {C : Addr} {c : Expr} {gc : Ev0 → Res Bool} {pos' : Pos} (A : Amb Γ X) (hc : FT Γ X W [] c gc) (R : ∃ C, RaiseC Γ.K mg Γ.ct x C) (hmg : ∀ i, (X i).mg = mg) (hg : ∀ i, Gl (X i) x) (tk : ∀ i, Takes (X i) W) (hd : (x == ("__debug__" : Str)) = false := by decide) :
    IS Γ X W C (.If c [.Raise (some (.Call (.Name x p) [.Constant (.str msg) j p2] [] pos)) none pos3] [] pos') (jGrdX x gc) := by
  obtain ⟨t, pe, ev⟩ := hc.ex
  obtain ⟨C', R⟩ := R
  refine ⟨tIfS t (fun _ σ H => W (.ref C') none σ H) tNext, fun i => ps_if (pe i) (pss_one (ps_raiseC (Γ := Γ) (A.calm i) (tk i) (by rw [A.K i, hmg i]; exact R) (hg i) hd)) pss_nil, fun F0 H0 F H σ ρ a dx fv ds D E s0 hx h0 hF hr hp => ?_⟩
  show t σ H _
  refine ev F0 H0 F H σ ρ _ E ?_
  unfold jGrdX at hp
  cases z : gc ρ with
  | ex c => rw [z] at hp; exact fun F' H' C' e1 q => hp F' H' C' (E.ext.trans e1) q
  | no => rw [z] at hp; exact hp
  | ok b =>
    rw [z] at hp
    intro F1 H1 b' e1 r1
    have r1 : b' = b := r1
    subst r1
    have hp : PostI Γ W C F0 H0 σ ρ a dx (if b' = true then .ex x else .ok ds) D := hp
    cases b' with
    | true =>
      rw [if_pos rfl] at hp
      exact hp F1 H1 C' (E.ext.trans e1) R.ct
    | false =>
      rw [if_neg (by decide)] at hp
      exact hp F1 H1 fv (E.extend e1) (e1.h _ _ hx) (ext_off e1 hx hF) (hr.mono e1.f)
/-! ### a try's body: what raises does so before any slot is stored -/
def PostX (Γ : Gx) (W : WX) (F H : Hp) (F0 H0 : Hp) (σ : L2.St) (D : Ends) (m : Mds) (kr : Kd) : Out → Prop
  | .ex c => ∀ F' H' C, Ext F H F' H' → Γ.ct c = some C → W (.ref C) none σ H'
  | o => PostS Γ W F F0 H0 D m kr o
def SvX (Γ : Gx) (W : WX) (M : List Nat) (m : Mds) (kr : Kd) (t : TS) (g : Ev0 → Out) : Prop :=
  ∀ F0 H0 F H σ ρ D, EO Γ F0 H0 F H M σ ρ → PostX Γ W F H F0 H0 σ D m kr (g ρ) → t D σ H
structure FX {ι : Type} (Γ : Gx) (X : ι → Cx) (W : WX) (M : List Nat) (m : Mds) (kr : Kd) (st : List Stmt) (g : Ev0 → Out) : Prop where
  ex : ∃ t : TS, (∀ i, PSs (X i) st t) ∧ SvX Γ W M m kr t g
theorem EvG.outX {α β : Type} {t : L2.St → Hp → (β → Hp → Prop) → Prop} {R : RG α β} {g : Ev0 → Res α} {f : α → Out} {K : β → Hp → Prop} {F0 H0 F H : Hp} {σ : L2.St} {ρ : Ev0} {D : Ends}
    (ha : EvG Γ W M t R g) (E : EO Γ F0 H0 F H M σ ρ) (hp : PostX Γ W F H F0 H0 σ D m kr (rOut (g ρ) f))
    (step : ∀ a F1 H1 b, Ext F H F1 H1 → EO Γ F0 H0 F1 H1 M σ ρ → R H F1 H1 b a → PostX Γ W F1 H1 F0 H0 σ D m kr (f a) → K b H1) : t σ H K := by
  refine ha F0 H0 F H σ ρ K E ?_
  cases h : g ρ with
  | ok a =>
    rw [h] at hp
    intro F' H' b e r
    refine step a F' H' b e (E.extend e) r ?_
    have hp : PostX Γ W F H F0 H0 σ D m kr (f a) := hp
    cases hf : f a with
    | ex c => rw [hf] at hp; exact fun F2 H2 C e2 q => hp F2 H2 C (e.trans e2) q
    | nx ρ =>
      rw [hf] at hp
      have hp : PostS Γ W F F0 H0 D m kr (.nx ρ) := hp
      exact PostS.mono e.f hp
    | rt d =>
      rw [hf] at hp
      have hp : PostS Γ W F F0 H0 D m kr (.rt d) := hp
      exact PostS.mono e.f hp
    | bk ρ =>
      rw [hf] at hp
      have hp : PostS Γ W F F0 H0 D m kr (.bk ρ) := hp
      exact PostS.mono e.f hp
    | ct ρ =>
      rw [hf] at hp
      have hp : PostS Γ W F F0 H0 D m kr (.ct ρ) := hp
      exact PostS.mono e.f hp
    | no => rw [hf] at hp; exact hp
  | ex c => rw [h] at hp; exact hp
  | no => rw [h] at hp; exact hp.elim
theorem fx_expr {e : Expr} {k : Kd} {ga : Ev0 → Res D} {bk ct : List Nat} (h : FE Γ X W M e k ga) (hs : ∀ i, swapsWith e none pos.line (X i).env = pure false) : FX Γ X W M ⟨M, bk, ct⟩ kr [.Expr e pos] (oExpr ga) := by
  obtain ⟨t, p, ev⟩ := h.ex
  refine ⟨_, fun i => pss_one (ps_expr (p i) (hs i)), fun F0 H0 F H σ ρ D E hp => ?_⟩
  show t σ H _
  exact EvG.outX ev E hp fun d F1 H1 v e1 E1 r1 hp1 => hp1 F1 H1 σ (Same.refl F1) E1
theorem fx_set (A : Amb Γ X) (i : Nat) {e : Expr} {ga : Ev0 → Res D} {y : Str} {py : Pos} (hi : ∀ j, (X j).N[i]? = some y) (hx : ∀ j, Loc (X j).env.scope y) (h : FE Γ X W M e .sh ga) (hs : ∀ j, swapsWith e (some (.Name y py)) pos.line (X j).env = pure false)
    (hf : ∀ j, (X j).fn y = true ∨ (X j).env.scope.names.lookup y = some .local) : FX Γ X W M ⟨M.filter (· != i), m.bk, m.ct⟩ kr [.Assign [.Name y py] e pos] (oSet i ga) := by
  obtain ⟨t, p, ev⟩ := h.ex
  refine ⟨_, fun j => pss_one (ps_set (A.nd j) (hi j) (hx j) (p j) (hs j) (hf j)), fun F0 H0 F H σ ρ D E hp => ?_⟩
  show t σ H _
  exact EvG.outX ev E hp fun d F1 H1 v e1 E1 r1 hp1 => hp1 F1 H1 _ (Same.refl F1) (E1.set i r1)
theorem fx_if {c e e' : Expr} {gc : Ev0 → Res Bool} {k k' : Kd} {ga gb : Ev0 → Res D} {bk ct : List Nat} {pos1 pos2 : Pos} (hc : FT Γ X W M c gc) (h : FE Γ X W M e k ga) (h' : FE Γ X W M e' k' gb) (hs : ∀ i, swapsWith e none pos1.line (X i).env = pure false) (hs' : ∀ i, swapsWith e' none pos2.line (X i).env = pure false) :
    FX Γ X W M ⟨M, bk, ct⟩ kr [.If c [.Expr e pos1] [.Expr e' pos2] pos] (oIf gc (oExpr ga) (oExpr gb)) := by
  obtain ⟨tc, pc, ec⟩ := hc.ex
  obtain ⟨t, p, ev⟩ := h.ex
  obtain ⟨u, q, ew⟩ := h'.ex
  refine ⟨_, fun i => pss_one (ps_if (pc i) (pss_one (ps_expr (p i) (hs i))) (pss_one (ps_expr (q i) (hs' i)))), fun F0 H0 F H σ ρ D E hp => ?_⟩
  show tc σ H _
  unfold oIf at hp
  refine EvG.outX ec E hp fun b F1 H1 b' e1 E1 r1 hp1 => ?_
  have r1 : b' = b := r1
  subst r1
  cases b' with
  | true =>
    show t σ H1 _
    exact EvG.outX ev E1 hp1 fun d F2 H2 v e2 E2 r2 hp2 => hp2 F2 H2 σ (Same.refl F2) E2
  | false =>
    show u σ H1 _
    exact EvG.outX ew E1 hp1 fun d F2 H2 v e2 E2 r2 hp2 => hp2 F2 H2 σ (Same.refl F2) E2
end
/-! ### the suite: names set to lists of isinstance(e, C) -/
/-- the classes of errors asked for, as values -/
structure AskC (Y : Cx) (D : Addr) (x : Str) (b : Bool) (cV : V) : Prop where
  pe : ∀ p, PE Y (.Name x p) (tC cV)
  one : ∃ cv, (∀ u, RelV cV u → u = cv) ∧ PySem.W.kitOne Y.K (.ref D) cv = some b
def tIsE (K : PySem.W.Frag) (D a : Addr) (i0 : Nat) : List V → TA
  | [] => tNil
  | cV :: cs => tCons (tCB (rIsE K D a) (tCons (tVar i0) (tCons (tC cV) tNil))) (tIsE K D a i0 cs)
/-- the list's expressions, one for each class -/
inductive IsEs (n : Str) : List Expr → List Str → Prop where
  | nil : IsEs n [] []
  | cons {es : List Expr} {cs : List Str} {c : Str} {p p1 p2 pos : Pos} (h : IsEs n es cs) : IsEs n (.Call (.Name "isinstance" p) [.Name n p1, .Name c p2] [] pos :: es) (c :: cs)
/-- two lists side by side -/
inductive AskL (Y : Cx) (D : Addr) : List Str → List Bool → List V → Prop where
  | nil : AskL Y D [] [] []
  | cons {c : Str} {b : Bool} {v : V} {cs : List Str} {bs : List Bool} {vs : List V} (h : AskC Y D c b v) (r : AskL Y D cs bs vs) : AskL Y D (c :: cs) (b :: bs) (v :: vs)
theorem pa_isE {X : Cx} {a D : Addr} {oe : Obj} {pn : List (Addr × Obj)} {n : Str} {i0 : Nat} (C : ExcC X.K D) (hz : Zc (.ref D) none oe) (hf : ∃ vs, oe.data = .fields vs) (hN : X.N[i0]? = some n) (hv : Vis X.env.scope n) (hg : Gl X "isinstance") (hm : X.mg "isinstance" = none) (hd : (n == ("__debug__" : Str)) = false) (hcd : (n == ("__classdict__" : Str)) = false)
    (hst : ∀ (e : Expr) (es : List Expr), (∃ p p1 p2 pos c, e = .Call (.Name "isinstance" p) [.Name n p1, .Name c p2] [] pos) → starEach (e :: es) X.env = (false, eval e X.env) :: starEach es X.env) :
    ∀ {es : List Expr} {cs : List Str} {bs : List Bool} {vs : List V}, IsEs n es cs → AskL (X.suite a ((a, oe) :: pn)) D cs bs vs → PA (X.suite a ((a, oe) :: pn)) es (tIsE X.K D a i0 vs)
  | _, _, _, _, .nil, .nil => pa_nil
  | _, _, _, _, .cons (p := p) (p1 := p1) (p2 := p2) (pos := pos) (c := c) h, .cons k r => by
    refine pa_cons ?_ (pa_isE C hz hf hN hv hg hm hd hcd hst h r) (hst _ _ ⟨p, p1, p2, pos, c, rfl⟩)
    exact pe_callB (X := X.suite a ((a, oe) :: pn)) (call_isE C hz hf) hg hm (by decide +kernel) (pa_cons (pe_var hN hv hd hcd) (pa_cons (k.pe p2) pa_nil))
theorem ev_isE {K : PySem.W.Frag} {Y : Cx} {D a : Addr} {i0 : Nat} (hK : Y.K = K) : ∀ {cs : List Str} {bs : List Bool} {vs : List V}, AskL Y D cs bs vs → ∀ {σ : L2.St} {H : Hp} {Q : List V → Hp → Prop}, σ[i0]? = some (some (.ref a)) → Q (bs.map V.bl) H → tIsE K D a i0 vs σ H Q
  | _, _, _, .nil, σ, H, Q, _, q => q
  | _, _, _, .cons k r, σ, H, Q, h, q => by
    obtain ⟨cv, h1, h2⟩ := k.one
    rw [hK] at h2
    refine ⟨.ref a, h, ?_⟩
    exact ⟨_, cv, _, rfl, h1, h2, ev_isE hK r h q⟩
/-- a class asked for: what it is, and which of the classes that are raised lie below it -/
def QryC (K : PySem.W.Frag) (mg : Str → Option Value) (ct : Str → Option Addr) (x : Str) (l : List (Str × Bool)) (cV : V) : Prop :=
  (∃ CT, mg x = some (.ref CT) ∧ cV = .ref CT ∧ ∀ c b C, l.lookup c = some b → ct c = some C → PySem.W.kitOne K (.ref C) (.ref CT) = some b) ∨
  ∃ T : String, mg x = none ∧ bootBuiltins x = some (.type T) ∧ x ≠ "__name__" ∧ cV = .ty T ∧ ∀ c b C, l.lookup c = some b → ct c = some C → PySem.W.kitOne K (.ref C) (.type T) = some b
theorem QryC.ask {K : PySem.W.Frag} {mg : Str → Option Value} {ct : Str → Option Addr} {x : Str} {l : List (Str × Bool)} {cV : V} (q : QryC K mg ct x l cV) {Y : Cx} {c : Str} {C : Addr} {b : Bool} (hK : Y.K = K) (hmg : Y.mg = mg) (hg : Gl Y x) (hd : (x == ("__debug__" : Str)) = false) (hl : l.lookup c = some b) (hC : ct c = some C) : AskC Y C x b cV := by
  subst hK hmg
  rcases q with ⟨CT, h1, rfl, h2⟩ | ⟨T, h1, h2, h3, rfl, h4⟩
  · exact ⟨fun p => pe_glob hg h1 rfl hd, .ref CT, fun u r => r, h2 c b C hl hC⟩
  · exact ⟨fun p => pe_bltn hg h1 h2 rfl h3 hd, .type T, fun u r => r, h4 c b C hl hC⟩
/-- the classes of one list, with their tables -/
inductive QryL (K : PySem.W.Frag) (mg : Str → Option Value) (ct : Str → Option Addr) : List (Str × List (Str × Bool)) → List V → Prop where
  | nil : QryL K mg ct [] []
  | cons {x : Str} {l : List (Str × Bool)} {v : V} {r : List (Str × List (Str × Bool))} {vs : List V} (h : QryC K mg ct x l v) (t : QryL K mg ct r vs) : QryL K mg ct ((x, l) :: r) (v :: vs)
/-- a list's answers for the class c -/
def ansL (c : Str) : List (Str × List (Str × Bool)) → Option (List Bool)
  | [] => some []
  | (_, l) :: r => match l.lookup c, ansL c r with
    | some b, some bs => some (b :: bs)
    | _, _ => none
theorem QryL.ask {K : PySem.W.Frag} {mg : Str → Option Value} {ct : Str → Option Addr} {Y : Cx} {c : Str} {C : Addr} (hK : Y.K = K) (hmg : Y.mg = mg) (hC : ct c = some C) : ∀ {ql : List (Str × List (Str × Bool))} {vs : List V} {bs : List Bool}, QryL K mg ct ql vs → (∀ x ∈ ql.map (·.1), Gl Y x ∧ (x == ("__debug__" : Str)) = false) → ansL c ql = some bs → AskL Y C (ql.map (·.1)) bs vs
  | _, _, bs, .nil, _, h => by cases h; exact .nil
  | (x, l) :: r, _, bs, .cons q t, hg, h => by
    unfold ansL at h
    cases h1 : l.lookup c with
    | none => rw [h1] at h; cases h
    | some b =>
      cases h2 : ansL c r with
      | none => rw [h1, h2] at h; cases h
      | some bs' =>
        rw [h1, h2] at h
        cases h
        obtain ⟨g1, g2⟩ := hg x List.mem_cons_self
        exact .cons (q.ask hK hmg g1 g2 h1 hC) (QryL.ask hK hmg hC t (fun y hy => hg y (List.mem_cons_of_mem _ hy)) h2)
/-- what the suite does to the slots -/
def gSu (c : Str) : List (Nat × List (Str × List (Str × Bool))) → Ev0 → Out
  | [], ρ => .nx ρ
  | (j, ql) :: us, ρ => match ansL c ql with
    | some bs => if bs.length ≤ sizeLine then gSu c us (ρ.set j (some (.lst (bs.map D.bl)))) else .no
    | none => .no
def tSu (K : PySem.W.Frag) (D a : Addr) (i0 : Nat) : List (Nat × List V) → TS
  | [] => fun D σ H => D.nx σ H
  | (j, vs) :: us => fun E σ H => tAsg (tLst (tIsE K D a i0 vs)) (gName j) { E with nx := tSu K D a i0 us E } σ H
/-- the suite's text -/
inductive SuTx {ι : Type} (Γ : Gx) (X : ι → Cx) (mg : Str → Option Value) (n : Str) (i0 : Nat) (M : List Nat) : List Stmt → List (Nat × List (Str × List (Str × Bool))) → List (Nat × List V) → Prop where
  | nil : SuTx Γ X mg n i0 M [] [] []
  | cons {sts : List Stmt} {us : List (Nat × List (Str × List (Str × Bool)))} {ws : List (Nat × List V)} {j : Nat} {y : Str} {py pos lp : Pos} {es : List Expr} {ql : List (Str × List (Str × Bool))} {vs : List V}
    (hi : ∀ i, (X i).N[j]? = some y) (hx : ∀ i, Loc (X i).env.scope y) (hs : ∀ i, swapsWith (.List es lp) (some (.Name y py)) pos.line (X i).env = pure false) (hf : ∀ i, (X i).fn y = true ∨ (X i).env.scope.names.lookup y = some .local) (hj : M.contains j = false) (hne : j ≠ i0)
    (he : IsEs n es (ql.map (·.1))) (hq : QryL Γ.K mg Γ.ct ql vs) (hg : ∀ i, ∀ x ∈ ql.map (·.1), Gl (X i) x ∧ (x == ("__debug__" : Str)) = false) (r : SuTx Γ X mg n i0 M sts us ws) : SuTx Γ X mg n i0 M (.Assign [.Name y py] (.List es lp) pos :: sts) ((j, ql) :: us) ((j, vs) :: ws)
theorem su_ps {ι : Type} {X : ι → Cx} {mg : Str → Option Value} {n : Str} {i0 : Nat} {M : List Nat} (A : Amb Γ X) (hmg : ∀ i, (X i).mg = mg) (hN : ∀ i, (X i).N[i0]? = some n) (hv : ∀ i, Vis (X i).env.scope n) (hgi : ∀ i, Gl (X i) "isinstance") (hm : ∀ i, (X i).mg "isinstance" = none) (hd : (n == ("__debug__" : Str)) = false) (hcd : (n == ("__classdict__" : Str)) = false)
    (hst : ∀ i, ∀ (e : Expr) (es : List Expr), (∃ p p1 p2 pos c, e = .Call (.Name "isinstance" p) [.Name n p1, .Name c p2] [] pos) → starEach (e :: es) (X i).env = (false, eval e (X i).env) :: starEach es (X i).env)
    {a C : Addr} {c : Str} (hC : Γ.ct c = some C) (hE : ExcC Γ.K C) {oe : Obj} (hz : Zc (.ref C) none oe) (hfl : ∃ vs, oe.data = .fields vs) (pn : List (Addr × Obj)) (i : ι) :
    ∀ {sts : List Stmt} {us : List (Nat × List (Str × List (Str × Bool)))} {ws : List (Nat × List V)}, SuTx Γ X mg n i0 M sts us ws → (∀ u ∈ us, (ansL c u.2).isSome = true) → PSs ((X i).suite a ((a, oe) :: pn)) sts (tSu Γ.K C a i0 ws)
  | _, _, _, .nil, _ => pss_nil
  | _, _, _, .cons (ql := ql) hi hx hs hf hj hne he hq hg r, ha => by
    obtain ⟨bs, hb⟩ := Option.isSome_iff_exists.mp (ha _ List.mem_cons_self)
    have hask := QryL.ask (Y := (X i).suite a ((a, oe) :: pn)) (A.K i) (hmg i) hC hq (hg i) hb
    have pa := pa_isE (X := X i) (a := a) (D := C) (oe := oe) (pn := pn) (n := n) (i0 := i0) (by rw [A.K i]; exact hE) hz hfl (hN i) (hv i) (hgi i) (hm i) hd hcd (hst i) he hask
    rw [A.K i] at pa
    exact pss_cons (ps_set (X := (X i).suite a ((a, oe) :: pn)) (A.nd i) (hi i) (hx i) (pe_lst pa) (hs i) (hf i)) (su_ps A hmg hN hv hgi hm hd hcd hst hC hE hz hfl pn i r fun u hu => ha u (List.mem_cons_of_mem _ hu))
theorem filter_none {M : List Nat} {j : Nat} (h : M.contains j = false) : M.filter (· != j) = M := by
  rw [List.filter_eq_self]
  intro x hx
  have : x ≠ j := fun z => by
    subst z
    rw [List.contains_iff_mem.mpr hx] at h
    cases h
  simpa using this
theorem RepL.bls {F : Hp} : ∀ bs : List Bool, RepL Γ F (bs.map V.bl) (bs.map D.bl)
  | [] => .nil
  | b :: bs => .cons (.bl b) (RepL.bls bs)
theorem su_sv {ι : Type} {X : ι → Cx} {mg : Str → Option Value} {n : Str} {i0 : Nat} {M : List Nat} {W : WX} {m : Mds} {kr : Kd} {a C : Addr} {c : Str} (i : ι) (hK : (X i).K = Γ.K) (hmg : (X i).mg = mg) (hC : Γ.ct c = some C) :
    ∀ {sts : List Stmt} {us : List (Nat × List (Str × List (Str × Bool)))} {ws : List (Nat × List V)}, SuTx Γ X mg n i0 M sts us ws → ∀ {F0 H0 F H : Hp} {σ : L2.St} {ρ : Ev0} {En : Ends}, EO Γ F0 H0 F H M σ ρ → σ[i0]? = some (some (.ref a)) → PostS Γ W F F0 H0 En ⟨M, m.bk, m.ct⟩ kr (gSu c us ρ) → tSu Γ.K C a i0 ws En σ H
  | _, _, _, .nil, F0, H0, F, H, σ, ρ, En, E, _, hp => hp F H σ (Same.refl F) E
  | _, _, _, .cons (j := j) (ql := ql) (us := us) hi hx hs hf hj hne he hq hg r, F0, H0, F, H, σ, ρ, En, E, h0, hp => by
    unfold gSu at hp
    cases hb : ansL c ql with
    | none => rw [hb] at hp; exact hp.elim
    | some bs =>
      rw [hb] at hp
      have hp : PostS Γ W F F0 H0 En ⟨M, m.bk, m.ct⟩ kr (if bs.length ≤ sizeLine then gSu c us (ρ.set j (some (.lst (bs.map D.bl)))) else .no) := hp
      by_cases hl : bs.length ≤ sizeLine
      · rw [if_pos hl] at hp
        have hask := QryL.ask (Y := X i) hK hmg hC hq (hg i) hb
        show tIsE Γ.K C a i0 _ σ H _
        refine ev_isE hK hask h0 ?_
        refine ⟨by rw [List.length_map]; exact hl, fun p hpn => ?_⟩
        show tSu Γ.K C a i0 _ En (σ.set j (some (.ref p))) (upd H p (.lst (bs.map V.bl)))
        have hx : Ext F H (upd F p (.lst (bs.map V.bl))) (upd H p (.lst (bs.map V.bl))) := Ext.new E.same hpn
        have rp : RepL Γ (upd F p (.lst (bs.map V.bl))) (bs.map V.bl) (bs.map D.bl) := RepL.bls bs
        have rr : Rep Γ (upd F p (.lst (bs.map V.bl))) (.ref p) (.lst (bs.map D.bl)) := .lst upd_same rp
        have E2 := (E.extend hx).set j rr
        rw [filter_none hj] at E2
        exact su_sv i hK hmg hC r E2 (by rw [List.getElem?_set_ne hne]; exact h0) (hp.mono hx.f)
      · rw [if_neg hl] at hp
        exact hp.elim
/-! ### try: body, except T as n: suite -/
def oTry (Tl : List (Str × Bool)) (i0 : Nat) (us : List (Nat × List (Str × List (Str × Bool)))) (gb : Ev0 → Out) : Ev0 → Out := fun ρ => match gb ρ with
  | .ex c => match Tl.lookup c with
    | some true => if i0 < ρ.length then gSu c us (ρ.set i0 none) else .no
    | _ => .no
  | o => o
abbrev XT {ι : Type} (X : ι → Cx) (W : WX) : {j : ι × List (Addr × Obj) × (Value → Shared → Prop) // Takes ((X j.1).tr j.2.1 j.2.2) W} → Cx := fun j => (X j.1.1).tr j.1.2.1 j.1.2.2
theorem amb_T {ι : Type} {X : ι → Cx} {W : WX} (A : Amb Γ X) : Amb Γ (XT X W) := ⟨fun j => A.K j.1.1, fun j => A.calm j.1.1, fun j => A.nd j.1.1, fun j => A.un j.1.1, fun j => A.un2 j.1.1⟩
theorem EO.wipe1 {F0 H0 F H : Hp} {M : List Nat} {σ : L2.St} {ρ : Ev0} (E : EO Γ F0 H0 F H M σ ρ) (i : Nat) (v : Option V) : EO Γ F0 H0 F H M (σ.set i v) (ρ.set i none) := by
  have key : ∀ j (d : D), (ρ.set i none)[j]? = some (some d) → j ≠ i ∧ ρ[j]? = some (some d) := fun j d h => by
    by_cases hj : i = j
    · subst hj
      rw [List.getElem?_set] at h
      simp at h
    · rw [List.getElem?_set_ne hj] at h
      exact ⟨fun z => hj z.symm, h⟩
  refine ⟨by rw [List.length_set, List.length_set]; exact E.len, E.ext, fun j d h => ?_, fun j k p d e hjk h1 h2 h3 h4 h5 h6 => ?_⟩
  · obtain ⟨hj, h⟩ := key j d h
    obtain ⟨w, g1, g2⟩ := E.slot j d h
    exact ⟨w, by rw [List.getElem?_set_ne (fun z => hj z.symm)]; exact g1, g2⟩
  · obtain ⟨hj, h3⟩ := key j d h3
    obtain ⟨hk, h4⟩ := key k e h4
    rw [List.getElem?_set_ne (fun z => hj z.symm)] at h5
    rw [List.getElem?_set_ne (fun z => hk z.symm)] at h6
    exact E.disj j k p d e hjk h1 h2 h3 h4 h5 h6
theorem pss_ex {Y : Cx} {α : Type} {P : α → Prop} {t : α → TS} {sts : List Stmt} (h : ∀ z, P z → PSs Y sts (t z)) : PSs Y sts (fun D σ H => ∃ z, P z ∧ t z D σ H) :=
  ⟨fun pins s σ H D I ⟨z, hz, hh⟩ => (h z hz).run pins s σ H D I hh⟩
/-- the suite keeps e's slot empty at its end -/
theorem gSu_wipe {c : Str} {i0 : Nat} : ∀ {us : List (Nat × List (Str × List (Str × Bool)))} {ρ ρ' : Ev0}, (∀ u ∈ us, u.1 ≠ i0) → ρ[i0]? = some none → gSu c us ρ = .nx ρ' → ρ'[i0]? = some none
  | [], ρ, ρ', _, h, e => by cases e; exact h
  | (j, ql) :: us, ρ, ρ', hn, h, e => by
    unfold gSu at e
    cases hb : ansL c ql with
    | none => rw [hb] at e; cases e
    | some bs =>
      rw [hb] at e
      have e : (if bs.length ≤ sizeLine then gSu c us (ρ.set j (some (.lst (bs.map D.bl)))) else .no) = .nx ρ' := e
      split at e
      · exact gSu_wipe (fun u hu => hn u (List.mem_cons_of_mem _ hu)) (by rw [List.getElem?_set_ne (hn _ List.mem_cons_self)]; exact h) e
      · cases e
theorem gSu_nx {c : Str} : ∀ {us : List (Nat × List (Str × List (Str × Bool)))} {ρ : Ev0}, (∃ ρ', gSu c us ρ = .nx ρ') ∨ gSu c us ρ = .no
  | [], ρ => .inl ⟨ρ, rfl⟩
  | (j, ql) :: us, ρ => by
    unfold gSu
    cases ansL c ql with
    | none => exact .inr rfl
    | some bs =>
      dsimp only
      split
      · exact gSu_nx
      · exact .inr rfl
theorem SuTx.ne {ι : Type} {X : ι → Cx} {mg : Str → Option Value} {n : Str} {i0 : Nat} {M : List Nat} : ∀ {sts : List Stmt} {us : List (Nat × List (Str × List (Str × Bool)))} {ws : List (Nat × List V)}, SuTx Γ X mg n i0 M sts us ws → ∀ u ∈ us, u.1 ≠ i0
  | _, _, _, .nil, _, h => by cases h
  | _, _, _, .cons hi hx hs hf hj hne he hq hg r, u, h => by
    rcases List.mem_cons.mp h with rfl | h
    · exact hne
    · exact SuTx.ne r u h
theorem fs_try {ι : Type} [Nonempty ι] {X : ι → Cx} {W : WX} {M bk ct : List Nat} {kr : Kd} {mg : Str → Option Value} {n T : Str} {i0 : Nat} {CT : Addr} {Tl : List (Str × Bool)} {body suite : List Stmt} {b₀ : Stmt} {np pos pos' : Pos} {gb : Ev0 → Out} {us : List (Nat × List (Str × List (Str × Bool)))} {ws : List (Nat × List V)}
    (A : Amb Γ X) (hmg : ∀ i, (X i).mg = mg) (hs : ∀ i, (X i).stack = (X i).env :: (X i).outer) (hfr : ∀ i, (X i).env.frame = some (X i).env.locals) (hN : ∀ i, (X i).N[i0]? = some n) (hln : ∀ i, (X i).env.kindOf n = some .local) (hv : ∀ i, Vis (X i).env.scope n) (hT : mg T = some (.ref CT)) (hgT : ∀ i, Gl (X i) T) (tk : ∀ i, Takes (X i) W)
    (hgi : ∀ i, Gl (X i) "isinstance") (hm : mg "isinstance" = none)
    (hb : ∀ W', Amb Γ (XT X W') → (∀ j, Takes (XT X W' j) W') → FX Γ (XT X W') W' M ⟨M, bk, ct⟩ kr body gb)
    (hTl : ∀ c b C, Tl.lookup c = some b → Γ.ct c = some C → PySem.W.exmOne Γ.K (.ref C) (.ref CT) = some b) (hE : ∀ c C, Tl.lookup c = some true → Γ.ct c = some C → ExcC Γ.K C)
    (hst : ∀ i, ∀ (e : Expr) (es : List Expr), (∃ p p1 p2 pos c, e = .Call (.Name "isinstance" p) [.Name n p1, .Name c p2] [] pos) → starEach (e :: es) (X i).env = (false, eval e (X i).env) :: starEach es (X i).env)
    (hu : SuTx Γ X mg n i0 M (b₀ :: suite) us ws) (han : ∀ c, Tl.lookup c = some true → ∀ u ∈ us, (ansL c u.2).isSome = true) (hM : M.contains i0 = false)
    (hdT : (T == ("__debug__" : Str)) = false := by decide) (hd : (n == ("__debug__" : Str)) = false := by decide) (hcd : (n == ("__classdict__" : Str)) = false := by decide) :
    FS Γ X W M ⟨M, bk, ct⟩ kr (.Try body [.ExceptHandler (some (.Name T np)) (some n) (b₀ :: suite) pos'] [] [] pos) (oTry Tl i0 us gb) := by
  let tb : WX → TS := fun W' => Classical.choose (hb W' (amb_T A) (fun j => j.2)).ex
  have htb := fun W' => Classical.choose_spec (hb W' (amb_T A) (fun j => j.2)).ex
  let ts : Addr → Value → Option Addr → TS := fun a cls d => fun E σ H => ∃ z : Addr × Str, (cls = .ref z.1 ∧ d = none ∧ Γ.ct z.2 = some z.1 ∧ Tl.lookup z.2 = some true) ∧ tSu Γ.K z.1 a i0 ws E σ H
  refine ⟨fun E σ H => tb (wAs Γ.K (.ref CT) i0 ts W E) E σ H, fun i => ?_, fun F0 H0 F H σ ρ E EE hp => ?_⟩
  · have := ps_try_as (X := X i) (x := T) (n := n) (c := .ref CT) (i := i0) (body := body) (suite := suite) (b₀ := b₀) (np := np) (pos := pos) (pos' := pos') (tb := tb) (ts := ts) (Wout := W) (hs i) (hfr i) (A.nd i) (hN i) (hln i) ⟨hgT i, hdT, .inl (by rw [hmg i]; exact hT)⟩ (tk i)
      (fun W' pn xe tkw _ => (htb W').1 ⟨(i, pn, xe), tkw⟩)
      (fun a oe cls d pn hz hfl => pss_ex fun z ⟨h1, h2, h3, h4⟩ => by
        subst h1 h2
        exact su_ps A hmg hN hv hgi (fun i => by rw [hmg i]; exact hm) hd hcd hst h3 (hE _ _ h4 h3) hz hfl pn i hu (han _ h4))
    rw [A.K i] at this
    exact this
  · show tb (wAs Γ.K (.ref CT) i0 ts W E) E σ H
    refine (htb _).2 F0 H0 F H σ ρ E EE ?_
    unfold oTry at hp
    cases hg : gb ρ with
    | nx ρ' => rw [hg] at hp; exact hp
    | bk ρ' => rw [hg] at hp; exact hp
    | ct ρ' => rw [hg] at hp; exact hp
    | rt d => rw [hg] at hp; exact hp
    | no => rw [hg] at hp; exact hp.elim
    | ex c =>
      rw [hg] at hp
      have hp : PostS Γ W F F0 H0 E ⟨M, bk, ct⟩ kr (match Tl.lookup c with | some true => if i0 < ρ.length then gSu c us (ρ.set i0 none) else .no | _ => .no) := hp
      cases hl : Tl.lookup c with
      | none => rw [hl] at hp; exact hp.elim
      | some b =>
        cases b with
        | false => rw [hl] at hp; exact hp.elim
        | true =>
          rw [hl] at hp
          have hp : PostS Γ W F F0 H0 E ⟨M, bk, ct⟩ kr (if i0 < ρ.length then gSu c us (ρ.set i0 none) else .no) := hp
          by_cases hlr : i0 < ρ.length
          case neg => rw [if_neg hlr] at hp; exact hp.elim
          rw [if_pos hlr] at hp
          intro F1 H1 C hx hC
          refine ⟨true, hTl _ _ _ hl hC, fun _ a ha => ?_, fun z => nomatch z⟩
          refine ⟨(C, c), ⟨rfl, rfl, hC, hl⟩, ?_⟩
          have E1 := (EE.extend hx).wipe1 i0 (some (.ref a))
          have hlen : i0 < σ.length := by rw [EE.len]; exact hlr
          have h0 : (σ.set i0 (some (.ref a)))[i0]? = some (some (.ref a)) := by
            rw [List.getElem?_set_self hlen]
          obtain ⟨i⟩ : Nonempty ι := inferInstance
          refine su_sv (m := ⟨M, bk, ct⟩) (kr := kr) (W := W) i (A.K i) (hmg i) hC hu E1 h0 ?_
          rcases gSu_nx (c := c) (us := us) (ρ := ρ.set i0 none) with ⟨ρ', e⟩ | e
          · rw [e] at hp ⊢
            have hw := gSu_wipe (SuTx.ne hu) (by rw [List.getElem?_set_self (by rw [← EE.len]; exact hlen)]) e
            intro F2 H2 σ2 s2 E2
            have E3 := E2.wipe1 i0 none
            have hρ : ρ'.set i0 none = ρ' := by
              apply List.ext_getElem?
              intro k
              by_cases hk : i0 = k
              · subst hk
                obtain ⟨hlt, _⟩ := List.getElem?_eq_some_iff.mp hw
                rw [hw, List.getElem?_set_self hlt]
              · rw [List.getElem?_set_ne hk]
            rw [hρ] at E3
            exact hp F2 H2 _ (hx.f.trans s2) E3
          · rw [e] at hp
            exact hp.elim
/-! ### the same, as the printed texts ask for it -/
def TryT (K : PySem.W.Frag) (mg : Str → Option Value) (ct : Str → Option Addr) (T : Str) (Tl : List (Str × Bool)) : Prop :=
  ∃ CT, mg T = some (.ref CT) ∧ (∀ c b C, Tl.lookup c = some b → ct c = some C → PySem.W.exmOne K (.ref C) (.ref CT) = some b) ∧ ∀ c C, Tl.lookup c = some true → ct c = some C → ExcC K C
def Qry (K : PySem.W.Frag) (mg : Str → Option Value) (ct : Str → Option Addr) (x : Str) (l : List (Str × Bool)) : Prop := ∃ v, QryC K mg ct x l v
def QryA (K : PySem.W.Frag) (mg : Str → Option Value) (ct : Str → Option Addr) (ql : List (Str × List (Str × Bool))) : Prop := ∃ vs, QryL K mg ct ql vs
theorem qry_nil {K : PySem.W.Frag} {mg : Str → Option Value} {ct : Str → Option Addr} : QryA K mg ct [] := ⟨_, .nil⟩
theorem qry_cons {K : PySem.W.Frag} {mg : Str → Option Value} {ct : Str → Option Addr} {x : Str} {l : List (Str × Bool)} {r : List (Str × List (Str × Bool))} (h : Qry K mg ct x l) (t : QryA K mg ct r) : QryA K mg ct ((x, l) :: r) := by
  obtain ⟨v, h⟩ := h
  obtain ⟨vs, t⟩ := t
  exact ⟨_, .cons h t⟩
def GlAll (Y : Cx) : List (Str × List (Str × Bool)) → Prop
  | [] => True
  | (x, _) :: r => (Gl Y x ∧ (x == ("__debug__" : Str)) = false) ∧ GlAll Y r
theorem GlAll.get {Y : Cx} : ∀ {ql : List (Str × List (Str × Bool))}, GlAll Y ql → ∀ x ∈ ql.map (·.1), Gl Y x ∧ (x == ("__debug__" : Str)) = false
  | (y, _) :: r, h, x, hx => by
    rcases List.mem_cons.mp hx with rfl | hx
    · exact h.1
    · exact GlAll.get h.2 x hx
def okAns (Tl : List (Str × Bool)) (us : List (Nat × List (Str × List (Str × Bool)))) : Bool := Tl.all fun cb => us.all fun u => (ansL cb.1 u.2).isSome
theorem okAns_get {Tl : List (Str × Bool)} {us : List (Nat × List (Str × List (Str × Bool)))} (h : okAns Tl us = true) : ∀ c, Tl.lookup c = some true → ∀ u ∈ us, (ansL c u.2).isSome = true := fun c hc u hu => by
  have hm : (c, true) ∈ Tl := by
    clear h
    induction Tl with
    | nil => cases hc
    | cons a r ih =>
      rw [List.lookup_cons] at hc
      by_cases z : (c == a.1) = true
      · rw [z] at hc
        cases a with
        | mk a1 a2 =>
          have z1 : c = a1 := beq_iff_eq.mp z
          have z2 : a2 = true := by injection hc
          subst z1 z2
          exact List.mem_cons_self
      · have z : (c == a.1) = false := by simpa using z
        rw [z] at hc
        exact List.mem_cons_of_mem _ (ih hc)
  exact List.all_eq_true.mp (List.all_eq_true.mp h _ hm) u hu
section
variable {ι : Type} {X : ι → Cx} {W : WX} {M bk ct : List Nat} {kr : Kd} {mg : Str → Option Value} {n T : Str} {i0 : Nat} {Tl : List (Str × Bool)} {body suite : List Stmt} {b₀ : Stmt} {np pos pos' : Pos} {gb : Ev0 → Out} {us : List (Nat × List (Str × List (Str × Bool)))}
def SuE (Γ : Gx) (X : ι → Cx) (mg : Str → Option Value) (n : Str) (i0 : Nat) (M : List Nat) (sts : List Stmt) (us : List (Nat × List (Str × List (Str × Bool)))) : Prop := ∃ ws, SuTx Γ X mg n i0 M sts us ws
theorem su_nil : SuE Γ X mg n i0 M [] [] := ⟨_, .nil⟩
theorem su_cons {sts : List Stmt} {j : Nat} {y : Str} {py pos lp : Pos} {es : List Expr} {ql : List (Str × List (Str × Bool))}
    (hi : ∀ i, (X i).N[j]? = some y) (hx : ∀ i, Loc (X i).env.scope y) (hs : ∀ i, swapsWith (.List es lp) (some (.Name y py)) pos.line (X i).env = pure false) (hf : ∀ i, (X i).fn y = true ∨ (X i).env.scope.names.lookup y = some .local) (hj : M.contains j = false) (hne : j ≠ i0)
    (he : IsEs n es (ql.map (·.1))) (hq : QryA Γ.K mg Γ.ct ql) (hg : ∀ i, GlAll (X i) ql) (r : SuE Γ X mg n i0 M sts us) : SuE Γ X mg n i0 M (.Assign [.Name y py] (.List es lp) pos :: sts) ((j, ql) :: us) := by
  obtain ⟨vs, hq⟩ := hq
  obtain ⟨ws, r⟩ := r
  exact ⟨_, .cons hi hx hs hf hj hne he hq (fun i => (hg i).get) r⟩
theorem fs_tryE [Nonempty ι] (A : Amb Γ X) (hmg : ∀ i, (X i).mg = mg) (hs : ∀ i, (X i).stack = (X i).env :: (X i).outer) (hfr : ∀ i, (X i).env.frame = some (X i).env.locals) (hN : ∀ i, (X i).N[i0]? = some n) (hln : ∀ i, (X i).env.kindOf n = some .local) (hv : ∀ i, Vis (X i).env.scope n) (hT : TryT Γ.K mg Γ.ct T Tl) (hgT : ∀ i, Gl (X i) T) (tk : ∀ i, Takes (X i) W)
    (hgi : ∀ i, Gl (X i) "isinstance") (hm : mg "isinstance" = none)
    (hb : ∀ W', Amb Γ (XT X W') → (∀ j, Takes (XT X W' j) W') → FX Γ (XT X W') W' M ⟨M, bk, ct⟩ kr body gb)
    (hst : ∀ i, ∀ (e : Expr) (es : List Expr), (∃ p p1 p2 pos c, e = .Call (.Name "isinstance" p) [.Name n p1, .Name c p2] [] pos) → starEach (e :: es) (X i).env = (false, eval e (X i).env) :: starEach es (X i).env)
    (hu : SuE Γ X mg n i0 M (b₀ :: suite) us) (han : okAns Tl us = true) (hM : M.contains i0 = false)
    (hdT : (T == ("__debug__" : Str)) = false := by decide) (hd : (n == ("__debug__" : Str)) = false := by decide) (hcd : (n == ("__classdict__" : Str)) = false := by decide) :
    FS Γ X W M ⟨M, bk, ct⟩ kr (.Try body [.ExceptHandler (some (.Name T np)) (some n) (b₀ :: suite) pos'] [] [] pos) (oTry Tl i0 us gb) := by
  obtain ⟨CT, h1, h2, h3⟩ := hT
  obtain ⟨ws, hu⟩ := hu
  exact fs_try A hmg hs hfr hN hln hv h1 hgT tk hgi hm hb h2 h3 hst hu (okAns_get han) hM hdT hd hcd
theorem fx_setN {m : Mds} (A : Amb Γ X) (i : Nat) {e : Expr} {ga : Ev0 → Res D} {y : Str} {py : Pos} (hm : M.contains i = false) (hi : ∀ j, (X j).N[i]? = some y) (hx : ∀ j, Loc (X j).env.scope y) (h : FE Γ X W M e .sh ga) (hs : ∀ j, swapsWith e (some (.Name y py)) pos.line (X j).env = pure false)
    (hf : ∀ j, (X j).fn y = true ∨ (X j).env.scope.names.lookup y = some .local) : FX Γ X W M ⟨M, m.bk, m.ct⟩ kr [.Assign [.Name y py] e pos] (oSet i ga) := by
  have := fx_set (m := m) (kr := kr) (py := py) (pos := pos) A i hi hx h hs hf
  rw [filter_none hm] at this
  exact this
end
theorem kitOne_ty {K : PySem.W.Frag} {C : Addr} {T : String} {b : Bool} (hm : PySem.W.mroIn K C (.type T) = some b) (hk : PySem.W.kitMeta T = true) : PySem.W.kitOne K (.ref C) (.type T) = some b := by
  unfold PySem.W.kitOne
  have q : (Value.ref C == Value.type T) = false := beq_eq_false_iff_ne.mpr fun z => nomatch z
  rw [q, if_neg (by decide)]
  show (if PySem.W.kitMeta T = true then PySem.W.mroIn K C (.type T) else none) = some b
  rw [if_pos hk]
  exact hm
theorem oTry_ex {Tl : List (Str × Bool)} {i0 : Nat} {us : List (Nat × List (Str × List (Str × Bool)))} {gb : Ev0 → Out} {ρ : Ev0} {c : Str} (h : gb ρ = .ex c) (hl : Tl.lookup c = some true) (hi : i0 < ρ.length) : oTry Tl i0 us gb ρ = gSu c us (ρ.set i0 none) := by
  unfold oTry
  rw [h]
  dsimp only
  rw [hl]
  dsimp only
  rw [if_pos hi]
theorem oTry_nx {Tl : List (Str × Bool)} {i0 : Nat} {us : List (Nat × List (Str × List (Str × Bool)))} {gb : Ev0 → Out} {ρ ρ' : Ev0} (h : gb ρ = .nx ρ') : oTry Tl i0 us gb ρ = .nx ρ' := by
  unfold oTry
  rw [h]
theorem gSu_one {c : Str} {j : Nat} {ql : List (Str × List (Str × Bool))} {us : List (Nat × List (Str × List (Str × Bool)))} {ρ : Ev0} {bs : List Bool} (h : ansL c ql = some bs) (hl : bs.length ≤ 1000) : gSu c ((j, ql) :: us) ρ = gSu c us (ρ.set j (some (.lst (bs.map D.bl)))) := by
  have hz : 1000 ≤ sizeLine := by decide
  show (match ansL c ql with | some bs => if bs.length ≤ sizeLine then gSu c us (ρ.set j (some (.lst (bs.map D.bl)))) else .no | none => .no) = _
  rw [h]
  dsimp only
  rw [if_pos (Nat.le_trans hl hz)]
theorem gSu_end {c : Str} {ρ : Ev0} : gSu c [] ρ = .nx ρ := rfl
@[simp] theorem jGrdX_e (c : Str) (gc : Ev0 → Res Bool) (ρ : Ev0) (ds : List (Str × D)) : jGrdX c gc ρ ds = (gc ρ).bind (kGrdX c ds) := rfl
@[simp] theorem kGrdX_f (c : Str) (ds : List (Str × D)) : kGrdX c ds false = .ok ds := rfl
@[simp] theorem kGrdX_t (c : Str) (ds : List (Str × D)) : kGrdX c ds true = .ex c := rfl
@[simp] theorem Res.bind_exc {α β : Type} (c : Str) (f : α → Res β) : (Res.ex c : Res α).bind f = .ex c := rfl
@[simp] theorem rOut_exc {α : Type} (c : Str) (f : α → Out) : rOut (Res.ex c) f = .ex c := rfl
@[simp] theorem then_exc (h : Ev0 → Out) (c : Str) : (Out.ex c).then h = .ex c := rfl
@[simp] theorem kFn_exc (k : Kd) (c : Str) : kFn k (.ex c) = .ex c := rfl
end FL
namespace FL
open PySem PySem.Spec PyProof.Rows L2
/-- a def of which nothing is promised: the ground of a def that calls itself -/
theorem def_no {P : Program} {w : World} {K : PySem.W.Frag} {mg : Str → Option Value} {base : Heap} {ct : Str → Option Addr} {x qual : Str} {st : Stmt} {ps : List Str} {kk n : Nat} {k : Kd} (F : DefAt K mg x qual st ps) : Def P w K mg base ct kk x n k (fun _ => .no) := by
  obtain ⟨f, fd, F1, hm, hb⟩ := F
  exact ⟨f, fd, ps, ⟨fun vs H Q E h => by obtain ⟨_, _, _, _, _, h⟩ := h; exact h.elim, fun A outer s H args us vs Q E _ _ _ _ h => by obtain ⟨_, _, _, _, _, h⟩ := h; exact h.elim⟩, hm, F1.kp, hb⟩
end FL
namespace FL
open PySem PySem.Spec PyProof.Rows L2
/-! dicts with tuples as keys: the pure side -/
@[simp] theorem lenD_dT (kvs : List (List Key × D)) : lenD (.dT kvs) = .ok (.int kvs.length) := (rfl)
@[simp] theorem kPut1_T (i : Nat) (gk : Ev0 → Res D) (ρ : Ev0) (v : D) (ds : List (List Key × D)) : kPut1 i gk ρ v (.dT ds) = rOut (gk ρ) (kPutT i ds v ρ) := (rfl)
def key2 (c : Int × Int) : List Key := [.inl c.1, .inl c.2]
def key3 (c : Int × Int × Int) : List Key := [.inl c.1, .inl c.2.1, .inl c.2.2]
theorem key2_inj {a b : Int × Int} (h : key2 a = key2 b) : a = b := by
  unfold key2 at h
  simp at h
  exact Prod.ext h.1 h.2
theorem key3_inj {a b : Int × Int × Int} (h : key3 a = key3 b) : a = b := by
  unfold key3 at h
  simp at h
  exact Prod.ext h.1 (Prod.ext h.2.1 h.2.2)
/-- the dict of some keys, all told True -/
def setL {α : Type} (k : α → List Key) (s : List α) : D := .dT (s.map fun c => (k c, .bl true))
def insL {α : Type} [DecidableEq α] (s : List α) (c : α) : List α := if c ∈ s then s else s ++ [c]
theorem look_set {α : Type} [DecidableEq α] {k : α → List Key} (hk : ∀ a b, k a = k b → a = b) (c : α) : ∀ s : List α, (lookD (s.map fun c => (k c, D.bl true)) (k c)).isSome = decide (c ∈ s)
  | [] => by simp [lookD]
  | a :: s => by
    have ih := look_set hk c s
    unfold lookD at ih ⊢
    rw [List.map_cons, List.find?_cons]
    by_cases e : a = c
    · subst e
      simp
    · have e2 : ¬ k a = k c := fun z => e (hk _ _ z)
      have e3 : ¬ c = a := fun z => e z.symm
      simp only [e2, decide_false]
      rw [ih]
      simp [e3]
theorem put_set {α : Type} [DecidableEq α] {k : α → List Key} (hk : ∀ a b, k a = k b → a = b) (c : α) (s : List α) : putD (s.map fun c => (k c, D.bl true)) (k c) (.bl true) = (insL s c).map fun c => (k c, D.bl true) := by
  unfold putD insL
  have e : (s.map fun c => (k c, D.bl true)).any (fun kv => decide (kv.1 = k c)) = decide (c ∈ s) := by
    rw [List.any_map, Bool.eq_iff_iff, List.any_eq_true, decide_eq_true_iff]
    constructor
    · rintro ⟨a, ha, h⟩
      have := hk _ _ (of_decide_eq_true h)
      rw [← this]; exact ha
    · intro h
      exact ⟨c, h, decide_eq_true rfl⟩
  rw [e]
  by_cases h : c ∈ s
  · rw [if_pos (decide_eq_true h), if_pos h]
    rw [List.map_map]
    refine List.map_congr_left fun a _ => ?_
    show (if k a = k c then (k a, D.bl true) else (k a, D.bl true)) = _
    split <;> rfl
  · rw [if_neg (by simp [h]), if_neg h, List.map_append]
    rfl
theorem insL_mem {α : Type} [DecidableEq α] {s : List α} {c a : α} : a ∈ insL s c ↔ a ∈ s ∨ a = c := by
  unfold insL
  split
  · constructor
    · exact .inl
    · rintro (h | rfl) <;> assumption
  · simp
theorem insL_nodup {α : Type} [DecidableEq α] {s : List α} {c : α} (h : s.Nodup) : (insL s c).Nodup := by
  unfold insL
  split
  · exact h
  · rename_i hc
    exact List.nodup_append.mpr ⟨h, List.pairwise_singleton _ _, fun a ha b hb => by
      rw [List.mem_singleton.mp hb]
      exact fun z => hc (z ▸ ha)⟩
theorem insL_len {α : Type} [DecidableEq α] (s : List α) (c : α) : (insL s c).length ≤ s.length + 1 := by
  unfold insL
  split
  · omega
  · simp
@[simp] theorem keyT_2 (a b : Int) : keyT (.tup [.int a, .int b]) = some (key2 (a, b)) := (rfl)
@[simp] theorem keyT_3 (a b c : Int) : keyT (.tup [.int a, .int b, .int c]) = some (key3 (a, b, c)) := (rfl)
@[simp] theorem keyT_eP (p : Int × Int) : keyT (eP p) = some (key2 p) := (rfl)
theorem kPutT_set {α : Type} [DecidableEq α] {k : α → List Key} (hk : ∀ a b, k a = k b → a = b) {i : Nat} {s : List α} {ρ : Ev0} {d : D} {c : α} (hd : keyT d = some (k c)) (hl : s.length < sizeLine) : kPutT i (s.map fun c => (k c, .bl true)) (.bl true) ρ d = .nx (ρ.set i (some (setL k (insL s c)))) := by
  unfold kPutT
  rw [hd]
  show (if (s.map fun c => (k c, D.bl true)).length < sizeLine then Out.nx (ρ.set i (some (.dT (putD (s.map fun c => (k c, D.bl true)) (k c) (.bl true))))) else .no) = _
  rw [if_pos (by rw [List.length_map]; exact hl), put_set hk]
  rfl
theorem kIn_set {α : Type} [DecidableEq α] {k : α → List Key} (hk : ∀ a b, k a = k b → a = b) {neg : Bool} {go : Ev0 → Res D} {s : List α} {ρ : Ev0} {d : D} {c : α} (hg : go ρ = .ok (setL k s)) (hd : keyT d = some (k c)) : kIn neg go ρ d = .ok (.bl (if neg = true then !decide (c ∈ s) else decide (c ∈ s))) := by
  have key : ∀ ks : Option (List Key), ks = some (k c) → (match ks with
    | some k' => Res.ok (D.bl (if neg = true then !(lookD (s.map fun c => (k c, D.bl true)) k').isSome else (lookD (s.map fun c => (k c, D.bl true)) k').isSome))
    | none => Res.no) = .ok (.bl (if neg = true then !decide (c ∈ s) else decide (c ∈ s))) := fun ks e => by
    subst e
    dsimp only
    rw [look_set hk]
  unfold kIn
  rw [hg]
  exact key _ hd
@[simp] theorem lenD_set {α : Type} (k : α → List Key) (s : List α) : lenD (setL k s) = .ok (.int s.length) := by
  unfold setL
  rw [lenD_dT, List.length_map]
end FL
namespace FL
open PySem PySem.Spec PyProof.Rows L2
variable {Γ : Gx}
/-! ### a shared dict with tuples as keys, locked while it is walked -/
def lk (B : Hp) (a : Addr) (od : Obj) (w : HO) : Hp := fun c => if c = a then (match B c with | some _ => some (.frz od w) | none => none) else B c
theorem lk_ne {B : Hp} {a c : Addr} {od : Obj} {w : HO} (h : c ≠ a) : lk B a od w c = B c := if_neg h
theorem lk_none {B : Hp} {a : Addr} {od : Obj} {w : HO} (h : B a = none) : lk B a od w a = none := by
  unfold lk
  rw [if_pos rfl, h]
theorem lk_at {B : Hp} {a : Addr} {od : Obj} {w u : HO} (h : lk B a od w a = some u) : u = .frz od w ∧ ∃ x, B a = some x := by
  unfold lk at h
  rw [if_pos rfl] at h
  cases z : B a with
  | none => rw [z] at h; cases h
  | some x => rw [z] at h; cases h; exact ⟨rfl, x, rfl⟩
section
variable {a : Addr} {od : Obj} {kvs : List (List Key × V)}
theorem nins (C dx : Addr) (fs : List (Str × V)) : (HO.dT kvs) ≠ .ins C dx fs := fun z => nomatch z
theorem ntup (xs : List V) : (HO.dT kvs) ≠ .tup xs := fun z => nomatch z
theorem nfz (o : Obj) (xs : List V) : (HO.dT kvs) ≠ .frz o (.tup xs) := fun z => nomatch z
theorem ntup2 (xs : List V) : (HO.frz od (.dT kvs)) ≠ .tup xs := fun z => nomatch z
theorem nfz2 (o : Obj) (xs : List V) : (HO.frz od (.dT kvs)) ≠ .frz o (.tup xs) := fun z => by injection z with _ z; cases z
theorem nins2 (C dx : Addr) (fs : List (Str × V)) : (HO.frz od (.dT kvs)) ≠ .ins C dx fs := fun z => nomatch z
theorem Rep.lock {F : Hp} (hF : F a = some (.dT kvs)) {v : V} {d : D} (h : Rep Γ F v d) : Rep Γ (L2.upd F a (.frz od (.dT kvs))) v d := Rep.via (tup_upd hF ntup nfz) (rd_lock (w := .dT kvs) trivial hF) (ins_upd hF nins) h
theorem RepL.lock {F : Hp} (hF : F a = some (.dT kvs)) {v : List V} {d : List D} (h : RepL Γ F v d) : RepL Γ (L2.upd F a (.frz od (.dT kvs))) v d := RepL.via (tup_upd hF ntup nfz) (rd_lock (w := .dT kvs) trivial hF) (ins_upd hF nins) h
theorem Rep.unlock {F : Hp} (hF : F a = some (.frz od (.dT kvs))) {v : V} {d : D} (h : Rep Γ F v d) : Rep Γ (L2.upd F a (.dT kvs)) v d := Rep.via (tup_upd hF ntup2 nfz2) (rd_unlock hF) (ins_upd hF nins2) h
theorem RepL.unlock {F : Hp} (hF : F a = some (.frz od (.dT kvs))) {v : List V} {d : List D} (h : RepL Γ F v d) : RepL Γ (L2.upd F a (.dT kvs)) v d := RepL.via (tup_upd hF ntup2 nfz2) (rd_unlock hF) (ins_upd hF nins2) h
theorem Hold.lock {F : Hp} (hF : F a = some (.dT kvs)) {o : HO} {d : D} (h : Hold Γ F o d) : Hold Γ (L2.upd F a (.frz od (.dT kvs))) o d := by
  cases h with
  | lst r => exact .lst (r.lock hF)
  | dK k r => exact .dK k (r.lock hF)
  | dT k r => exact .dT k (r.lock hF)
theorem Hold.unlock {F : Hp} (hF : F a = some (.frz od (.dT kvs))) {o : HO} {d : D} (h : Hold Γ F o d) : Hold Γ (L2.upd F a (.dT kvs)) o d := by
  cases h with
  | lst r => exact .lst (r.unlock hF)
  | dK k r => exact .dK k (r.unlock hF)
  | dT k r => exact .dT k (r.unlock hF)
theorem EO.lock {F0 H0 F H : Hp} {M : List Nat} {σ : L2.St} {ρ : Ev0} (E : EO Γ F0 H0 F H M σ ρ) (hF : F a = some (.dT kvs)) : EO Γ (lk F0 a od (.dT kvs)) (lk H0 a od (.dT kvs)) (L2.upd F a (.frz od (.dT kvs))) (L2.upd H a (.frz od (.dT kvs))) M σ ρ := by
  refine ⟨E.len, ⟨fun c u h => ?_, fun c u h => ?_, fun c u h => ?_, fun c u h => ?_⟩, fun j d hj => ?_, E.disj⟩
  · by_cases e : c = a
    · subst e; rw [(lk_at h).1, upd_same]
    · rw [lk_ne e] at h; rw [upd_ne e]; exact E.ext.f _ _ h
  · by_cases e : c = a
    · subst e; rw [(lk_at h).1, upd_same]
    · rw [lk_ne e] at h; rw [upd_ne e]; exact E.ext.h _ _ h
  · by_cases e : c = a
    · subst e; rw [upd_same] at h ⊢; exact h
    · rw [upd_ne e] at h ⊢; exact E.same _ _ h
  · by_cases e : c = a
    · subst e
      rcases E.ext.n _ _ hF with ⟨w, y⟩ | y | ⟨ks, y⟩
      · refine .inl ⟨.frz od (.dT kvs), ?_⟩
        unfold lk
        rw [if_pos rfl, y]
      · exact .inr (.inl (lk_none y))
      · have := E.ext.h _ _ y
        rw [E.same _ _ hF] at this
        cases this
    · rw [upd_ne e] at h
      rw [lk_ne e, lk_ne e]
      exact E.ext.n _ _ h
  · obtain ⟨v, h1, h2⟩ := E.slot j d hj
    refine ⟨v, h1, ?_⟩
    cases hc : M.contains j with
    | false =>
      rw [hc] at h2
      exact Rep.lock hF h2
    | true =>
      rw [hc] at h2
      obtain ⟨p, o, rfl, h3, h4, h5, h6⟩ := h2
      have np : p ≠ a := fun z => by rw [z, hF] at h4; cases h4
      exact ⟨p, o, rfl, by rw [lk_ne np]; exact h3, by rw [upd_ne np]; exact h4, by rw [upd_ne np]; exact h5, h6.lock hF⟩
theorem Ext.unlock {F0 H0 F H F2 H2 : Hp} (e : Ext F0 H0 F H) (hF : F a = some (.dT kvs)) (e2 : Ext (lk F0 a od (.dT kvs)) (lk H0 a od (.dT kvs)) F2 H2) (Fa : F2 a = some (.frz od (.dT kvs))) : Ext F0 H0 (L2.upd F2 a (.dT kvs)) (L2.upd H2 a (.dT kvs)) := by
  refine ⟨fun c u h => ?_, fun c u h => ?_, fun c u h => ?_, fun c u h => ?_⟩
  · by_cases z : c = a
    · subst z; rw [upd_same]; have := e.f _ _ h; rw [hF] at this; exact this
    · rw [upd_ne z]; exact e2.f _ _ (by rw [lk_ne z]; exact h)
  · by_cases z : c = a
    · subst z; rw [upd_same]; have := e.h _ _ h; rw [e.i _ _ hF] at this; exact this
    · rw [upd_ne z]; exact e2.h _ _ (by rw [lk_ne z]; exact h)
  · by_cases z : c = a
    · subst z; rw [upd_same] at h ⊢; exact h
    · rw [upd_ne z] at h ⊢; exact e2.i _ _ h
  · by_cases z : c = a
    · subst z
      rcases e.n _ _ hF with y | y | ⟨ks, y⟩
      · exact .inl y
      · exact .inr (.inl y)
      · have := e.h _ _ y
        rw [e.i _ _ hF] at this
        cases this
    · rw [upd_ne z] at h
      have := e2.n _ _ h
      rw [lk_ne z, lk_ne z] at this
      exact this
theorem EO.unlock {F0 H0 F H F2 H2 : Hp} {M : List Nat} {σ : L2.St} {ρ : Ev0} (e : Ext F0 H0 F H) (hF : F a = some (.dT kvs)) (E2 : EO Γ (lk F0 a od (.dT kvs)) (lk H0 a od (.dT kvs)) F2 H2 M σ ρ) (Fa : F2 a = some (.frz od (.dT kvs))) : EO Γ F0 H0 (L2.upd F2 a (.dT kvs)) (L2.upd H2 a (.dT kvs)) M σ ρ := by
  refine ⟨E2.len, e.unlock hF E2.ext Fa, fun j d hj => ?_, E2.disj⟩
  obtain ⟨v, h1, h2⟩ := E2.slot j d hj
  refine ⟨v, h1, ?_⟩
  cases hc : M.contains j with
  | false =>
    rw [hc] at h2
    exact Rep.unlock Fa h2
  | true =>
    rw [hc] at h2
    obtain ⟨p, o, rfl, h3, h4, h5, h6⟩ := h2
    have np : p ≠ a := fun z => by rw [z, Fa] at h4; cases h4
    exact ⟨p, o, rfl, by rw [lk_ne np] at h3; exact h3, by rw [upd_ne np]; exact h4, by rw [upd_ne np]; exact h5, h6.unlock Fa⟩
theorem OwnR.unlock {H0 F2 H2 : Hp} {k : Kd} {v : V} {d : D} (hk : k = .sh ∨ k = .ow) (Fa : F2 a = some (.frz od (.dT kvs))) (h : OwnR Γ (lk H0 a od (.dT kvs)) F2 H2 k v d) : OwnR Γ H0 (L2.upd F2 a (.dT kvs)) (L2.upd H2 a (.dT kvs)) k v d := by
  rcases hk with rfl | rfl
  · exact Rep.unlock Fa h
  · obtain ⟨p, o, rfl, h3, h4, h5, h6⟩ := h
    have np : p ≠ a := fun z => by rw [z, Fa] at h4; cases h4
    exact ⟨p, o, rfl, by rw [lk_ne np] at h3; exact h3, by rw [upd_ne np]; exact h4, by rw [upd_ne np]; exact h5, h6.unlock Fa⟩
end
/-- a key as a datum -/
def kd (ks : List Key) : D := .tup (ks.map keyD)
theorem kd_rep {F : Hp} : ∀ ks : List Key, RepL Γ F (ks.map kV) (ks.map keyD)
  | [] => .nil
  | k :: ks => .cons (keyD_rep k) (kd_rep ks)
theorem itkt_R {F : Hp} {d : Addr} {o : Obj} {kvs : List (List Key × V)} {ds : List (List Key × D)} (hF : F d = some (.frz o (.dT kvs))) (hk : kvs.map (·.1) = ds.map (·.1)) (hn : (ds.all fun p => !p.1.isEmpty) = true) : ItR Γ F (Itkt d o kvs) (ds.map fun p => kd p.1) := fun i F1 H1 s1 s2 => by
  have hH : H1 d = some (.frz o (.dT kvs)) := s2 _ _ (s1 _ _ hF)
  have hl : kvs.length = ds.length := by have := congrArg List.length hk; simpa using this
  refine ⟨fun e he => ?_, fun h => ⟨hH, by rw [List.length_map] at h; omega⟩⟩
  rw [List.getElem?_map, Option.map_eq_some_iff] at he
  obtain ⟨⟨k, dd⟩, hd, rfl⟩ := he
  have hi : i < ds.length := by
    cases z : decide (i < ds.length) with
    | true => exact of_decide_eq_true z
    | false => rw [List.getElem?_eq_none (by have := of_decide_eq_false z; omega)] at hd; cases hd
  have hne : k.isEmpty = false := by
    have := List.all_eq_true.mp hn _ (List.mem_of_getElem? hd)
    simpa using this
  refine ⟨⟨hH, by omega⟩, fun x H2 y => ?_⟩
  obtain ⟨rfl, k', v, q, hkv, rfl, hq⟩ := y
  have e1 : k' = k := by
    have := congrArg (fun l => l[i]?) hk
    simp only [List.getElem?_map, hkv, hd] at this
    simpa using this
  subst e1
  refine ⟨L2.upd F1 q (.tup (k'.map kV)), ⟨fun c u h => ?_, Same.refl _, fun c u h => ?_, fun c u h => ?_⟩, .tup (.inl ⟨?_, upd_same⟩) (kd_rep k')⟩
  · by_cases e : c = q
    · subst e
      have := s2 _ _ h
      rw [hq] at this
      cases this
      exact upd_same
    · rw [upd_ne e]; exact h
  · by_cases e : c = q
    · subst e; rw [upd_same] at h; cases h; exact hq
    · rw [upd_ne e] at h; exact s2 _ _ h
  · by_cases e : c = q
    · subst e; exact .inr (.inr ⟨_, hq⟩)
    · rw [upd_ne e] at h; exact .inl ⟨u, h⟩
  · cases k' with
    | nil => cases hne
    | cons a k' => exact pairs_key _ _
section
variable {ι : Type} {X : ι → Cx} {W : WX} {M is : List Nat} {pos p : Pos} {kr : Kd}
theorem for_core {bk ct : List Nat} {g : TG} {tb : TS} {b : D → Ev0 → Res Ev0} {body : Ev0 → Out} {F0 H0 F1 H1 : Hp} {σ : L2.St} {ρ : Ev0} {D : Ends} {J : It} {ds : List FL.D} (eg : TgOk Γ M is g b) (eb : Sv Γ W M ⟨M, M, M⟩ kr tb body) (E1 : EO Γ F0 H0 F1 H1 M σ ρ) (rI : ItR Γ F1 J ds) (hp1 : PostS Γ W F1 F0 H0 D ⟨M, bk, ct⟩ kr (forO b body ds ρ)) :
    ∃ Wm : Nat → Nat → L2.St → Hp → Prop, (∃ m, Wm 0 m σ H1) ∧ ∀ i m σ H, Wm i m σ H →
      (J.stop i H ∧ D.nx σ H) ∨ (J.go i H ∧ ∃ N : L2.St → Hp → Prop, (∀ σ' H', N σ' H' → ∃ m', m' < m ∧ Wm (i + 1) m' σ' H') ∧ ∀ x H', J.yld i H x H' → g x σ H' fun σ2 H2 => tb { D with nx := N, ct := N, bk := D.nx } σ2 H2) := by
  generalize ho : forO b body ds ρ = out at hp1
  refine ⟨fun i n σ' H' => n = ds.length - i ∧ i ≤ ds.length ∧ ∃ F' ρ', EO Γ F0 H0 F' H' M σ' ρ' ∧ Same F1 F' ∧ forO b body (ds.drop i) ρ' = out, ⟨ds.length, by simp, Nat.zero_le _, F1, ρ, E1, Same.refl _, ho⟩, ?_⟩
  rintro i n σ' H' ⟨rfl, hil, F', ρ', E', s', hf⟩
  obtain ⟨hgo, hstop⟩ := rI i F' H' s' E'.same
  by_cases hlt : i < ds.length
  · refine .inr ?_
    have hdi : ds[i]? = some ds[i] := List.getElem?_eq_getElem hlt
    obtain ⟨go, hy⟩ := hgo _ hdi
    refine ⟨go, fun σ2 H2 => i + 1 ≤ ds.length ∧ ∃ F2 ρ2, EO Γ F0 H0 F2 H2 M σ2 ρ2 ∧ Same F1 F2 ∧ forO b body (ds.drop (i + 1)) ρ2 = out, fun σ2 H2 ⟨h1, h2⟩ => ⟨ds.length - (i + 1), by omega, rfl, h1, h2⟩, fun x H2 y => ?_⟩
    obtain ⟨F2, e2, rx⟩ := hy x H2 y
    have E2 := E'.extend e2
    rw [List.drop_eq_getElem_cons hlt] at hf
    unfold forO at hf
    cases hb : b (ds[i]) ρ' with
    | ex c => rw [hb] at hf; subst hf; exact hp1.elim
    | no => rw [hb] at hf; subst hf; exact hp1.elim
    | ok ρ1 =>
      rw [hb] at hf
      refine eg F0 H0 F2 H2 σ' ρ' x _ ρ1 _ E2 rx hb fun σ3 E3 _ => ?_
      dsimp only at hf
      refine eb F0 H0 F2 H2 σ3 ρ1 _ E3 ?_
      have sF : Same F1 F2 := s'.trans e2.f
      cases hbo : body ρ1 with
      | nx ρ2 =>
        rw [hbo] at hf
        exact fun F4 H4 σ4 s4 E4 => ⟨hlt, F4, ρ2, E4, sF.trans s4, hf⟩
      | ct ρ2 =>
        rw [hbo] at hf
        exact fun F4 H4 σ4 s4 E4 => ⟨hlt, F4, ρ2, E4, sF.trans s4, hf⟩
      | bk ρ2 =>
        rw [hbo] at hf
        subst hf
        exact fun F4 H4 σ4 s4 E4 => hp1 F4 H4 σ4 (sF.trans s4) E4
      | rt d => rw [hbo] at hf; subst hf; exact hp1
      | ex c => rw [hbo] at hf; subst hf; exact hp1
      | no => rw [hbo] at hf; subst hf; exact hp1
  · refine .inl ⟨hstop (by omega), ?_⟩
    have : ds.drop i = [] := List.drop_eq_nil_of_le (by omega)
    rw [this] at hf
    unfold forO at hf
    subst hf
    exact hp1 F' H' σ' s' E'
def noX : Out → Out
  | .ex _ => .no
  | .rt _ => .no
  | o => o
/-- for k in d: the keys -/
def gKeysT (i : Nat) : Ev0 → Res (List D) := fun ρ => match ρ[i]? with
  | some (some (.dT ds)) => if (ds.all fun p => !p.1.isEmpty) = true then .ok (ds.map fun p => kd p.1) else .no
  | _ => .no
def oForK (i : Nat) (b : D → Ev0 → Res Ev0) (body : Ev0 → Out) : Ev0 → Out := fun ρ => rOut (gKeysT i ρ) fun ds => noX (forO b body ds ρ)
theorem ps_or {X : Cx} {st : Stmt} {t u : TS} (h1 : PS X st t) (h2 : PS X st u) : PS X st (fun D σ H => t D σ H ∨ u D σ H) :=
  ⟨fun pins s σ H D I h => h.elim (fun q => h1.run pins s σ H D I q) fun q => h2.run pins s σ H D I q⟩
theorem fs_forK (A : Amb Γ X) (i : Nat) {x : Str} {tg : Expr} {sts : List Stmt} {b : D → Ev0 → Res Ev0} {body : Ev0 → Out} {bk ct : List Nat} (hpo : ∀ i, PassesOwn (model (X i).prog (X i).w) (X i).A (X i).env (X i).xe) (hN : ∀ j, (X j).N[i]? = some x) (hv : ∀ j, Vis (X j).env.scope x) (hm : M.contains i = false) (hk : kr = .sh ∨ kr = .ow)
    (hg : FG Γ X M is tg b) (hb : FSs Γ X W M ⟨M, M, M⟩ kr sts body) (hs : ∀ i x', foldedSetIterable (.Name x p) (X i).env x' = pure x') (hd : (x == ("__debug__" : Str)) = false := by decide) (hcd : (x == ("__classdict__" : Str)) = false := by decide) : FS Γ X W M ⟨M, bk, ct⟩ kr (.For tg (.Name x p) sts [] pos) (oForK i b body) := by
  obtain ⟨g, pg, eg⟩ := hg.ex
  obtain ⟨tb, pb, eb⟩ := hb.ex
  have pl : ∀ j, PS (X j) (.For tg (.Name x p) sts [] pos) (tFor (iKeys (tVar i)) g tb) := fun j => ps_for (hpo j) (A.calm j) (pi_keys (pe_var (hN j) (hv j) hd hcd)) (pg j) (pb j) (hs j)
  refine ⟨_, fun j => ps_or (ps_lock (pl j)) (pl j), fun F0 H0 F H σ ρ D E hp => ?_⟩
  unfold oForK gKeysT at hp
  cases h0 : ρ[i]? with
  | none => rw [h0] at hp; exact hp.elim
  | some o0 =>
    cases o0 with
    | none => rw [h0] at hp; exact hp.elim
    | some d0 =>
      rw [h0] at hp
      obtain ⟨v, hσ, hr⟩ := E.slot i d0 h0
      rw [hm] at hr
      have hr : Rep Γ F v d0 := hr
      cases hr with
      | @dT a kvs ds hrd hkk r =>
        dsimp only at hp
        split at hp
        · rename_i hall
          have hp : PostS Γ W F F0 H0 D ⟨M, bk, ct⟩ kr (noX (forO b body (ds.map fun p => kd p.1) ρ)) := hp
          rcases hrd with hF | ⟨o, hF⟩
          · refine .inl ⟨a, .dT kvs, E.same _ _ hF, trivial, fun od => ?_⟩
            refine ⟨_, hσ, a, od, rfl, .inr ⟨kvs, upd_same, ?_⟩⟩
            refine for_core (W := W) (bk := bk) (ct := ct) (kr := kr) eg eb (E.lock (od := od) hF) (itkt_R upd_same hkk hall) ?_
            have fa : ∀ {F2 : Hp}, Same (L2.upd F a (.frz od (.dT kvs))) F2 → F2 a = some (.frz od (.dT kvs)) := fun s => s _ _ upd_same
            have sm : ∀ {F2 : Hp}, Same (L2.upd F a (.frz od (.dT kvs))) F2 → Same F (L2.upd F2 a (.dT kvs)) := fun {F2} s c u h => by
              by_cases e : c = a
              · subst e; rw [hF] at h; rw [upd_same]; exact h
              · rw [upd_ne e]; exact s _ _ (by rw [upd_ne e]; exact h)
            generalize forO b body (ds.map fun p => kd p.1) ρ = out at hp
            cases out with
            | nx ρ2 => exact fun F2 H2 σ2 s2 E2 => ⟨E2.same _ _ (fa s2), hp _ _ _ (sm s2) (EO.unlock E.ext hF E2 (fa s2))⟩
            | bk ρ2 => exact fun F2 H2 σ2 s2 E2 => ⟨E2.same _ _ (fa s2), hp _ _ _ (sm s2) (EO.unlock E.ext hF E2 (fa s2))⟩
            | ct ρ2 => exact fun F2 H2 σ2 s2 E2 => ⟨E2.same _ _ (fa s2), hp _ _ _ (sm s2) (EO.unlock E.ext hF E2 (fa s2))⟩
            | rt d => exact hp.elim
            | ex c => exact hp.elim
            | no => exact hp.elim
          · refine .inr ⟨_, hσ, a, o, rfl, .inr ⟨kvs, E.same _ _ hF, ?_⟩⟩
            refine for_core (W := W) (bk := bk) (ct := ct) (kr := kr) eg eb E (itkt_R hF hkk hall) ?_
            generalize forO b body (ds.map fun p => kd p.1) ρ = out at hp ⊢
            cases out with
            | ex c => exact hp.elim
            | rt d => exact hp.elim
            | _ => exact hp
        · exact hp.elim
      | _ => exact hp.elim
end
end FL
namespace FL
open PySem PySem.Spec PyProof.Rows L2
variable {Γ : Gx}
/-! comprehensions over the keys of a shared dict; own slots in another order -/
section
variable {ι : Type} {X : ι → Cx} {W : WX} {M is : List Nat} {pos p1 : Pos} {elt tg : Expr} {ifs : List Expr} {sc : Scope} {b : D → Ev0 → Res Ev0} {gt : Ev0 → Res Bool} {ge : Ev0 → Res D}
theorem fe_lcKeys (A : Amb Γ X) (i : Nat) {x : Str} (own : List (Str × Nat)) (hN : ∀ j, (X j).N[i]? = some x) (hv : ∀ j, Vis (X j).env.scope x) (hm : M.contains i = false)
    (ok : ∀ i, BlkOk (X i).N (X i).env.scope sc own) (hg : FG Γ (Blk X sc) M is tg b) (ht : FTs Γ (Blk X sc) W0 M ifs gt) (he : FE Γ (Blk X sc) W0 M elt .sh ge)
    (hsub : ∀ i ∈ is, i ∈ own.map (·.2)) (hs : ∀ i x', foldedSetIterable (.Name x p1) (X i).env x' = pure x') (hd : (x == ("__debug__" : Str)) = false := by decide) (hcd : (x == ("__classdict__" : Str)) = false := by decide) :
    FE Γ X W M (.ListComp elt [⟨tg, .Name x p1, ifs, 0⟩] sc pos) .ow (gComp (own.map (·.2)) (gKeysT i) b gt ge) := by
  obtain ⟨g, pg, eg⟩ := hg.ex
  obtain ⟨tt, pt, et⟩ := ht.ex
  obtain ⟨te, pe, ee⟩ := he.ex
  have pl : ∀ j, PE (X j) (.ListComp elt [⟨tg, .Name x p1, ifs, 0⟩] sc pos) (tLc (iKeys (tVar i)) g tt te (own.map (·.2))) := fun j =>
    pe_lc (A.calm j) (A.nd j) (pi_keys (pe_var (hN j) (hv j) hd hcd)) (ok j) (fun s H C cl fp => pg ⟨j, s, H, C, cl, fp⟩) (fun s H C cl fp => pt ⟨j, s, H, C, cl, fp⟩) (fun s H C cl fp => pe ⟨j, s, H, C, cl, fp⟩) (hs j)
  refine ⟨_, fun j => pe_or (pe_lock (pl j)) (pl j), fun F0 H0 F H σ ρ Q E hp => ?_⟩
  unfold gComp gKeysT at hp
  cases h0 : ρ[i]? with
  | none => rw [h0] at hp; exact hp.elim
  | some o0 =>
    cases o0 with
    | none => rw [h0] at hp; exact hp.elim
    | some d0 =>
      rw [h0] at hp
      obtain ⟨v, hσ, hr⟩ := E.slot i d0 h0
      rw [hm] at hr
      have hr : Rep Γ F v d0 := hr
      cases hr with
      | @dT a kvs ds hrd hk r =>
        dsimp only at hp
        by_cases hall : (ds.all fun p => !p.1.isEmpty) = true
        case neg => rw [if_neg hall] at hp; exact hp.elim
        rw [if_pos hall] at hp
        have hp : PostG Γ W F H σ (RE Γ .ow) (match compO (own.map (·.2)) b gt ge ρ (ds.map fun p => kd p.1) with | .ok r => if r.length ≤ sizeLine then .ok (.lst r) else .no | _ => .no) Q := hp
        rcases hrd with hF | ⟨o, hF⟩
        · refine .inl ⟨a, .dT kvs, E.same _ _ hF, trivial, fun od => ?_⟩
          refine ⟨_, hσ, a, od, rfl, .inr ⟨kvs, upd_same, ?_⟩⟩
          show lcT g tt te (own.map (·.2)) σ (fun v H' => H' a = some (.frz od (.dT kvs)) ∧ Q v (L2.upd H' a (.dT kvs))) (Itkt a od kvs) (L2.upd H a (.frz od (.dT kvs)))
          refine lc_tail (W := W) eg hsub et ee (E.lock (od := od) hF) (itkt_R upd_same hk hall) ?_
          cases hc : compO (own.map (·.2)) b gt ge ρ (ds.map fun p => kd p.1) with
          | ok rs =>
            rw [hc] at hp
            dsimp only at hp ⊢
            split at hp
            · rename_i hl
              rw [if_pos hl]
              rintro F' H' w e1 ⟨p, oo, rfl, h1, h2, h3, h4⟩
              have Fa : F' a = some (.frz od (.dT kvs)) := e1.f _ _ upd_same
              have Ha : H' a = some (.frz od (.dT kvs)) := e1.h _ _ upd_same
              refine ⟨Ha, ?_⟩
              have npa : p ≠ a := fun z => by rw [z, Fa] at h2; cases h2
              refine hp (L2.upd F' a (.dT kvs)) (L2.upd H' a (.dT kvs)) _ ⟨fun c u h => ?_, fun c u h => ?_, fun c u h => ?_, fun c u h => ?_⟩ ⟨p, oo, rfl, ?_, by rw [upd_ne npa]; exact h2, by rw [upd_ne npa]; exact h3, h4.unlock Fa⟩
              · by_cases e : c = a
                · subst e; rw [hF] at h; rw [upd_same]; exact h
                · rw [upd_ne e]; exact e1.f _ _ (by rw [upd_ne e]; exact h)
              · by_cases e : c = a
                · subst e; rw [E.same _ _ hF] at h; rw [upd_same]; exact h
                · rw [upd_ne e]; exact e1.h _ _ (by rw [upd_ne e]; exact h)
              · by_cases e : c = a
                · subst e; rw [upd_same] at h ⊢; exact h
                · rw [upd_ne e] at h ⊢; exact e1.i _ _ h
              · by_cases e : c = a
                · subst e; exact .inl ⟨_, hF⟩
                · rw [upd_ne e] at h
                  have := e1.n _ _ h
                  rw [upd_ne e, upd_ne e] at this
                  exact this
              · rw [upd_ne npa] at h1; exact h1
            · exact hp.elim
          | ex c => rw [hc] at hp; exact hp.elim
          | no => rw [hc] at hp; exact hp.elim
        · refine .inr ⟨_, hσ, a, o, rfl, .inr ⟨kvs, E.same _ _ hF, ?_⟩⟩
          show lcT g tt te (own.map (·.2)) σ Q (Itkt a o kvs) H
          exact lc_tail (W := W) eg hsub et ee E (itkt_R hF hk hall) hp
      | _ => exact hp.elim
end
/-- the same own slots in another order -/
theorem EO.perm {F0 H0 F H : Hp} {M M' : List Nat} {σ : L2.St} {ρ : Ev0} (E : EO Γ F0 H0 F H M σ ρ) (h : ∀ i, M.contains i = M'.contains i) : EO Γ F0 H0 F H M' σ ρ :=
  ⟨E.len, E.ext, fun i d hd => by rw [← h]; exact E.slot i d hd, fun i j p d e hij h1 h2 => E.disj i j p d e hij (by rw [h]; exact h1) (by rw [h]; exact h2)⟩
section
variable {ι : Type} {X : ι → Cx} {W : WX} {M M' : List Nat} {m : Mds} {kr : Kd}
theorem fss_perm {sts : List Stmt} {g : Ev0 → Out} (M' : List Nat) (hm : M.length = M'.length ∧ M.all (fun i => M'.contains i) = true ∧ M'.all (fun i => M.contains i) = true) (h : FSs Γ X W M' m kr sts g) : FSs Γ X W M m kr sts g := by
  obtain ⟨t, p, s⟩ := h.ex
  have hc : ∀ i, M.contains i = M'.contains i := fun i => by
    rw [Bool.eq_iff_iff, List.contains_iff_mem, List.contains_iff_mem]
    constructor
    · intro z; have := List.all_eq_true.mp hm.2.1 i z; rwa [List.contains_iff_mem] at this
    · intro z; have := List.all_eq_true.mp hm.2.2 i z; rwa [List.contains_iff_mem] at this
  exact ⟨t, p, fun F0 H0 F H σ ρ D E hp => s F0 H0 F H σ ρ D (E.perm hc) hp⟩
end
/-! the pure side -/
@[simp] theorem oForK_e (i : Nat) (b : D → Ev0 → Res Ev0) (body : Ev0 → Out) (ρ : Ev0) : oForK i b body ρ = rOut (gKeysT i ρ) fun ds => noX (forO b body ds ρ) := rfl
theorem gKeysT_2 {i : Nat} {ρ : Ev0} {s : List (Int × Int)} (h : ρ[i]? = some (some (setL key2 s))) : gKeysT i ρ = .ok (s.map eP) := by
  unfold gKeysT
  rw [h]
  show (if ((s.map fun c => (key2 c, D.bl true)).all fun p => !p.1.isEmpty) = true then Res.ok ((s.map fun c => (key2 c, D.bl true)).map fun p => kd p.1) else .no) = _
  rw [if_pos (by rw [List.all_map]; exact List.all_eq_true.mpr fun _ _ => rfl), List.map_map]
  rfl
end FL
namespace FL
open PySem PySem.Spec PyProof.Rows L2
variable {Γ : Gx}
/-! ### texts -/
section
variable {ι : Type} {X : ι → Cx} {W : WX} {M is js : List Nat} {e a b o : Expr} {k kr ka kb : Kd} {pos p : Pos} {ga gb : Ev0 → Res D}
/-- a slice of a text -/
def slS (a : D) (lo hi : Option Int) : Res D := match a with
  | .str z => if z.length ≤ sizeLine then .ok (.str (cutS z lo hi)) else .no
  | _ => .no
theorem fe_slS {lo hi : Option Expr} {gl gh : Option (Ev0 → Res D)} {p2 : Pos} (ha : FE Γ X W M a ka ga) (hl : FO Γ X W M lo gl) (hh : FO Γ X W M hi gh) : FE Γ X W M (.Subscript a (.Slice lo hi none p2) pos) .sh (gSl ga gl gh slS) := by
  obtain ⟨ta, pa, ea⟩ := ha.ob.ex
  obtain ⟨tl, pl, el⟩ := hl.ex
  obtain ⟨th, ph, eh⟩ := hh.ex
  refine ⟨_, fun i => pe_slice (pos := pos) (p2 := p2) (X := X i) sl_str (pa i) (pl i) (ph i), ev_sl (fun W F H σ Q x a lo hi s ra hp => ?_) ea el eh⟩
  unfold slS at hp
  split at hp
  · split at hp
    · rename_i z hz
      exact ⟨z, Rep.str_inv ra, hz, hp F H _ (Ext.refl s) (.str _)⟩
    · exact hp.elim
  · exact hp.elim
/-- str(a whole number) -/
def strD : D → Res D
  | .int i => if i.natAbs.log2 < 1920 then .ok (.str (Str.ofString (toString i))) else .no
  | _ => .no
theorem fe_strOf (T : C1x X "str" e pos) (h : FE Γ X W M e ka ga) : FE Γ X W M (.Call (.Name "str" p) [e] [] pos) .sh (g1 ga strD) :=
  fe_ct1 (r := fun _ => _) (fun _ => call_str_int) (fun W F H σ Q x d s r hp => by
    unfold strD at hp
    split at hp
    · split at hp
      · rename_i hl
        exact ⟨_, by rw [Rep.int_inv r], hl, hp F H _ (Ext.refl s) (.str _)⟩
      · exact hp.elim
    · exact hp.elim) T.g T.m (by decide +kernel) h.ob T.he T.hpl
/-- int(a text) -/
def intSD : D → Res D
  | .str a => if a.length ≤ 640 then match PySem.intText? a with | some n => .ok (.int n) | none => .no else .no
  | _ => .no
theorem fe_intS (T : C1x X "int" e pos) (h : FE Γ X W M e ka ga) : FE Γ X W M (.Call (.Name "int" p) [e] [] pos) .sh (g1 ga intSD) :=
  fe_ct1 (r := fun _ => _) (fun _ => call_int_str) (fun W F H σ Q x d s r hp => by
    unfold intSD at hp
    split at hp
    · split at hp
      · rename_i hl
        split at hp
        · rename_i n hn
          exact ⟨_, n, by rw [Rep.str_inv r], hn, hl, hp F H _ (Ext.refl s) (.int _)⟩
        · exact hp.elim
      · exact hp.elim
    · exact hp.elim) T.g T.m (by decide +kernel) h.ob T.he T.hpl
/-- a sign in a text -/
def inSg (neg : Bool) (a b : D) : Res D := match a, b with
  | .str x, .str z => match x.cps.toList with
    | [c] => .ok (.bl (if neg = true then !decide (c ∈ z.cps.toList) else decide (c ∈ z.cps.toList)))
    | _ => .no
  | _, _ => .no
theorem one_sign {x : Str} {c : Nat} (h : x.cps.toList = [c]) : x = ⟨#[c]⟩ := Str.ext' (Array.toList_inj.mp (by rw [h]))
theorem os_inSg : OpS Γ (fun x y H Q => ∃ (c : Nat) (z : Str), x = .str ⟨#[c]⟩ ∧ y = .str z ∧ Q (.bl (decide (c ∈ z.cps.toList))) H) .ob .ob .sh (inSg false) := fun W F H σ Q x y a b s ra rb hp => by
  unfold inSg at hp
  split at hp
  · split at hp
    · rename_i u z _ c hc
      rw [one_sign hc] at ra
      exact ⟨c, z, Rep.str_inv ra, Rep.str_inv rb, hp F H _ (Ext.refl s) (.bl _)⟩
    · exact hp.elim
  · exact hp.elim
theorem os_notinSg : OpS Γ (fun x y H Q => ∃ (c : Nat) (z : Str), x = .str ⟨#[c]⟩ ∧ y = .str z ∧ Q (.bl (!decide (c ∈ z.cps.toList))) H) .ob .ob .sh (inSg true) := fun W F H σ Q x y a b s ra rb hp => by
  unfold inSg at hp
  split at hp
  · split at hp
    · rename_i u z _ c hc
      rw [one_sign hc] at ra
      exact ⟨c, z, Rep.str_inv ra, Rep.str_inv rb, hp F H _ (Ext.refl s) (.bl _)⟩
    · exact hp.elim
  · exact hp.elim
theorem fe_inS (ha : FE Γ X W M a ka ga) (hb : FE Γ X W M b kb gb) (hm : behindInMarks .In b = false) : FE Γ X W M (.Compare a [.In] [b] pos) .sh (g2 ga gb (inSg false)) := fe_cmp (r := fun _ => _) (fun _ => op_in_sign) os_inSg ha.ob hb.ob hm
theorem ft_inS (ha : FE Γ X W M a ka ga) (hb : FE Γ X W M b kb gb) (hm : behindInMarks .In b = false) : FT Γ X W M (.Compare a [.In] [b] pos) (gT (g2 ga gb (inSg false))) := ft_cmp (r := fun _ => _) (fun _ => op_in_sign) os_inSg ha.ob hb.ob hm
theorem fe_notinS (ha : FE Γ X W M a ka ga) (hb : FE Γ X W M b kb gb) (hm : behindInMarks .NotIn b = false) : FE Γ X W M (.Compare a [.NotIn] [b] pos) .sh (g2 ga gb (inSg true)) := fe_cmp (r := fun _ => _) (fun _ => op_notIn_sign) os_notinSg ha.ob hb.ob hm
theorem ft_notinS (ha : FE Γ X W M a ka ga) (hb : FE Γ X W M b kb gb) (hm : behindInMarks .NotIn b = false) : FT Γ X W M (.Compare a [.NotIn] [b] pos) (gT (g2 ga gb (inSg true))) := ft_cmp (r := fun _ => _) (fun _ => op_notIn_sign) os_notinSg ha.ob hb.ob hm
/-- text * number -/
def repS : D → D → Res D
  | .str x, .int n => if 1 ≤ n ∧ n ≤ 1000 ∧ 1 ≤ x.length ∧ x.length ≤ 1000 then .ok (.str (Txt.mul x n)) else .no
  | _, _ => .no
theorem op_repS {Y : Cx} : OpR Y (binaryOp .Mult) (fun x y H Q => ∃ z n, x = .str z ∧ y = .int n ∧ MulOk z n ∧ Q (.str (Txt.mul z n)) H) := by
  intro pins s σ H x y v u Q I rx ry h
  obtain ⟨z, n, rfl, rfl, hok, q⟩ := h
  obtain ⟨t, rfl⟩ := rx
  obtain ⟨t2, rfl⟩ := ry
  exact SB.mul hok fun t' k => ⟨.str _, H, I.tok k, ⟨t', rfl⟩, q⟩
theorem mulOk_small {x : Str} {n : Int} (h : 1 ≤ n ∧ n ≤ 1000 ∧ 1 ≤ x.length ∧ x.length ≤ 1000) : MulOk x n := by
  obtain ⟨h1, h2, h3, h4⟩ := h
  refine ⟨?_, fun _ _ => ?_, fun _ _ => ?_⟩
  · have a1 : ¬ n < -(2 ^ 63 : Int) := by omega
    have a2 : ¬ n ≥ 2 ^ 63 := by omega
    simp
    omega
  · have : (2 ^ 63 - 1 : Int) / 1000 ≤ (2 ^ 63 - 1) / n := by
      apply (Int.le_ediv_iff_mul_le (by omega)).mpr
      have : (2 ^ 63 - 1 : Int) / 1000 * n ≤ (2 ^ 63 - 1 : Int) / 1000 * 1000 := Int.mul_le_mul_of_nonneg_left h2 (by decide)
      omega
    omega
  · have : x.length * n.toNat ≤ 1000 * 1000 := Nat.mul_le_mul h4 (by omega)
    show decide (x.length * n.toNat > _) = false
    simp only [decide_eq_false_iff_not]
    have hs := sizeLine_eq
    omega
theorem fe_repS (ha : FE Γ X W M a ka ga) (hb : FE Γ X W M b kb gb) : FE Γ X W M (.BinOp a .Mult b pos) .sh (g2 ga gb repS) :=
  fe_bin (r := fun _ => _) (fun _ => op_repS) (fun W F H σ Q x y d d' s ra rb hp => by
    unfold repS at hp
    split at hp
    · split at hp
      · rename_i h
        exact ⟨_, _, Rep.str_inv ra, Rep.int_inv rb, mulOk_small h, hp F H _ (Ext.refl s) (.str _)⟩
      · exact hp.elim
    · exact hp.elim) ha.ob hb.ob
/-! ### walked -/
def signs (z : Str) : List D := z.cps.toList.map fun c => .str ⟨#[c]⟩
def gSeqS (g : Ev0 → Res D) : Ev0 → Res (List D) := fun ρ => (g ρ).bind fun d => match d with
  | .str z => .ok (signs z)
  | _ => .no
theorem its_R {F : Hp} {x : Str} : ItR Γ F (Its x) (signs x) := fun i F1 H1 s1 s2 => by
  have hl : (signs x).length = x.cps.size := by simp [signs]
  refine ⟨fun d hd => ?_, fun h => ?_⟩
  · have hi : i < x.cps.size := by
      rw [← hl]
      exact (List.getElem?_eq_some_iff.mp hd).1
    refine ⟨hi, fun v H2 y => ?_⟩
    obtain ⟨rfl, c, hc, rfl⟩ := y
    refine ⟨F1, Ext.refl s2, ?_⟩
    unfold signs at hd
    rw [List.getElem?_map, Array.getElem?_toList, hc] at hd
    cases hd
    exact .str _
  · show x.cps.size ≤ i
    omega
theorem fi_str {tg : Expr} (h : FE Γ X W M e ka ga) : FI Γ X W M tg e (gSeqS ga) := by
  obtain ⟨t, p, ev⟩ := h.ob.ex
  refine ⟨_, fun i => pi_str (p i), fun F0 H0 F H σ ρ Q E hp => ?_⟩
  show t σ H _
  refine EvG.bind ev (fun _ _ _ _ _ _ _ h => h) E hp fun d F1 H1 x e1 E1 r1 hp1 => ?_
  have r1 : Rep Γ H1 x d := r1
  cases r1 with
  | str z => exact ⟨z, rfl, hp1 F1 H1 _ (Ext.refl E1.same) its_R⟩
  | _ => exact hp1.elim
/-! ### methods with one argument -/
/-- the worth of o.m(e): o a text -/
def gM1 (go ge : Ev0 → Res D) (op : Str → D → Res D) : Ev0 → Res D := fun ρ => (go ρ).bind fun a => match a with
  | .str s => (ge ρ).bind fun b => op s b
  | _ => .no
/-- what the text of o.m(e) gives -/
structure M1x {ι : Type} (X : ι → Cx) (o : Expr) (m : Str) (e : Expr) (apos pos : Pos) : Prop where
  hs : ∀ i, starEach [e] (X i).env = [(false, eval e (X i).env)]
  hb : ∀ i, attributeBase o m (X i).env (eval o (X i).env) = eval o (X i).env
  hl : (apos.endLine == pos.line) = true
theorem ev_m1 {r : V → List V → Hp → VK → Prop} {op : Str → D → Res D} {to te : TE} {go ge : Ev0 → Res D} (hr : ∀ W F H σ Q s y d, Same F H → RelK Γ F H kb y d → PostG Γ W F H σ (RE Γ k) (op s d) Q → r (.str s) [y] H Q)
    (ho : EvG Γ W M to (RE Γ .ob) go) (he : EvG Γ W M te (RE Γ kb) ge) : EvG Γ W M (tM1 r to te) (RE Γ k) (gM1 go ge op) := fun F0 H0 F H σ ρ Q E hp => by
  show to σ H _
  refine EvG.bind ho RE.mono E hp fun d F1 H1 x e1 E1 r1 hp1 => ?_
  have r1 : Rep Γ H1 x d := r1
  cases r1 with
  | str z =>
    refine ⟨⟨z, rfl⟩, ?_⟩
    refine EvG.bind he RE.mono E1 hp1 fun d2 F2 H2 y e2 E2 r2 hp2 => ?_
    exact hr W F2 H2 σ Q z y d2 E2.same (OwnR.rel r2) hp2
  | _ => exact hp1.elim
variable {go ge : Ev0 → Res D} {apos : Pos}
def splitS (a : Str) : D → Res D
  | .str b => if (b.length == 0) = false ∧ a.length + 2 ≤ sizeLine ∧ (Txt.split a b).length ≤ sizeLine then .ok (.lst ((Txt.split a b).map .str)) else .no
  | _ => .no
theorem RepL.strs {F : Hp} : ∀ ys : List Str, RepL Γ F (ys.map V.str) (ys.map D.str)
  | [] => .nil
  | y :: ys => .cons (.str y) (RepL.strs ys)
theorem fe_split (ho : FE Γ X W M o ka go) (he : FE Γ X W M e kb ge) (T : M1x X o "split" e apos pos) : FE Γ X W M (.Call (.Attribute o "split" apos) [e] [] pos) .ow (gM1 go ge splitS) := by
  obtain ⟨to, po, eo⟩ := ho.ob.ex
  obtain ⟨te, pe, ee⟩ := he.ob.ex
  refine ⟨_, fun i => pe_split (po i) (pe i) (T.hs i) (T.hb i) T.hl, ev_m1 (fun W F H σ Q z y d s r hp => ?_) eo ee⟩
  unfold splitS at hp
  split at hp
  · split at hp
    · rename_i b h
      exact ⟨z, b, rfl, by rw [Rep.str_inv r], h.1, h.2.1, fun l hl => hp _ _ _ (Ext.own s hl) ⟨l, _, rfl, hl, s.free hl, upd_same, .lst (RepL.strs _)⟩⟩
    · exact hp.elim
  · exact hp.elim
def partS (a : Str) : D → Res D
  | .str b => if (b.length == 0) = false ∧ a.length ≤ sizeLine then .ok (.tup [.str (Txt.partition a b).1, .str (Txt.partition a b).2.1, .str (Txt.partition a b).2.2]) else .no
  | _ => .no
theorem fe_partition (ho : FE Γ X W M o ka go) (he : FE Γ X W M e kb ge) (T : M1x X o "partition" e apos pos) : FE Γ X W M (.Call (.Attribute o "partition" apos) [e] [] pos) .sh (gM1 go ge partS) := by
  obtain ⟨to, po, eo⟩ := ho.ob.ex
  obtain ⟨te, pe, ee⟩ := he.ob.ex
  refine ⟨_, fun i => pe_partition (po i) (pe i) (T.hs i) (T.hb i) T.hl, ev_m1 (fun W F H σ Q z y d s r hp => ?_) eo ee⟩
  unfold partS at hp
  split at hp
  · split at hp
    · rename_i b h
      refine ⟨z, b, rfl, by rw [Rep.str_inv r], h.1, h.2, fun l hl => hp _ _ _ (Ext.new s hl) (.tup (.inl ⟨rfl, upd_same⟩) (.cons (.str _) (.cons (.str _) (.cons (.str _) .nil))))⟩
    · exact hp.elim
  · exact hp.elim
/-- texts of a list -/
def strsO : List D → Option (List Str)
  | [] => some []
  | .str s :: r => (strsO r).map (s :: ·)
  | _ => none
theorem strsO_rep {F : Hp} : ∀ {vs : List V} {ds : List D} {ys : List Str}, RepL Γ F vs ds → strsO ds = some ys → vs = ys.map V.str
  | _, _, _, .nil, e => by cases e; rfl
  | _, _, _, .cons h r, e => by
    cases h with
    | str s =>
      unfold strsO at e
      rw [Option.map_eq_some_iff] at e
      obtain ⟨r', h1, rfl⟩ := e
      rw [strsO_rep r h1]
      rfl
    | _ => cases e
def joinS (a : Str) (d : D) : Res D := match seqOf d with
  | some ds => match strsO ds with
    | some ys => if (ys.map (·.length)).sum + ys.length * a.length ≤ 16777216 then .ok (.str (Txt.join a ys)) else .no
    | none => .no
  | none => .no
theorem fe_join (A : Amb Γ X) (ho : FE Γ X W M o ka go) (he : FE Γ X W M e kb ge) (T : M1x X o "join" e apos pos) (hk : kb ≠ .ob := by intro z; cases z) : FE Γ X W M (.Call (.Attribute o "join" apos) [e] [] pos) .sh (gM1 go ge joinS) := by
  obtain ⟨to, po, eo⟩ := ho.ob.ex
  obtain ⟨te, pe, ee⟩ := (he.ov hk).ex
  refine ⟨_, fun i => by have := pe_join (po i) (pe i) (T.hs i) (T.hb i) T.hl; rw [A.K i] at this; exact this, ev_m1 (fun W F H σ Q z y d s r hp => ?_) eo ee⟩
  have r : Rep1 Γ F H y d := r
  unfold joinS at hp
  split at hp
  · rename_i ds hd
    obtain ⟨q, xs, rfl, hq, rr⟩ := Rep1.seq s r hd
    split at hp
    · rename_i ys hy
      split at hp
      · rename_i hz
        have := strsO_rep rr hy
        subst this
        exact ⟨z, q, ys, rfl, rfl, hq, hz, hp F H _ (Ext.refl s) (.str _)⟩
      · exact hp.elim
    · exact hp.elim
  · exact hp.elim
def findS (a : Str) : D → Res D
  | .str b => .ok (.int (Txt.find a b))
  | _ => .no
theorem fe_find (ho : FE Γ X W M o ka go) (he : FE Γ X W M e kb ge) (T : M1x X o "find" e apos pos) : FE Γ X W M (.Call (.Attribute o "find" apos) [e] [] pos) .sh (gM1 go ge findS) := by
  obtain ⟨to, po, eo⟩ := ho.ob.ex
  obtain ⟨te, pe, ee⟩ := he.ob.ex
  refine ⟨_, fun i => pe_m1 F.slot_str_find F.type_str_find mt_find (po i) (pe i) (T.hs i) (T.hb i) T.hl, ev_m1 (fun W F H σ Q z y d s r hp => ?_) eo ee⟩
  unfold findS at hp
  split at hp
  · exact ⟨z, _, rfl, by rw [Rep.str_inv r], hp F H _ (Ext.refl s) (.int _)⟩
  · exact hp.elim
def rfindS (a : Str) : D → Res D
  | .str b => .ok (.int (Txt.rfind a b))
  | _ => .no
theorem fe_rfind (ho : FE Γ X W M o ka go) (he : FE Γ X W M e kb ge) (T : M1x X o "rfind" e apos pos) : FE Γ X W M (.Call (.Attribute o "rfind" apos) [e] [] pos) .sh (gM1 go ge rfindS) := by
  obtain ⟨to, po, eo⟩ := ho.ob.ex
  obtain ⟨te, pe, ee⟩ := he.ob.ex
  refine ⟨_, fun i => pe_m1 F.slot_str_rfind F.type_str_rfind mt_rfind (po i) (pe i) (T.hs i) (T.hb i) T.hl, ev_m1 (fun W F H σ Q z y d s r hp => ?_) eo ee⟩
  unfold rfindS at hp
  split at hp
  · exact ⟨z, _, rfl, by rw [Rep.str_inv r], hp F H _ (Ext.refl s) (.int _)⟩
  · exact hp.elim
end
end FL
namespace FL
open PySem L2 TL
/-! ### texts as lists of signs: the pure side -/
def tx (l : List Nat) : Str := ⟨l.toArray⟩
theorem tl_tx (l : List Nat) : tl (tx l) = l := rfl
theorem tx_tl (s : Str) : tx (tl s) = s := mk_tl s
theorem tx_inj {l m : List Nat} : tx l = tx m ↔ l = m := ⟨fun h => by have := congrArg tl h; rwa [tl_tx, tl_tx] at this, fun h => by rw [h]⟩
theorem tx_app (l m : List Nat) : tx l ++ tx m = tx (l ++ m) := ext_tl (by rw [tl_append, tl_tx, tl_tx, tl_tx])
theorem tx_len (l : List Nat) : (tx l).length = l.length := by rw [len_tl, tl_tx]
theorem tx_of (s : String) : Str.ofString s = tx (s.toList.map Char.toNat) := ext_tl (by rw [tl_ofString, tl_tx])
@[simp] theorem addD_tx (l m : List Nat) : addD (.str (tx l)) (.str (tx m)) = if l.length + m.length ≤ sizeLine then .ok (.str (tx (l ++ m))) else .no := by
  show (if (tx l).length + (tx m).length ≤ sizeLine then Res.ok (D.str (tx l ++ tx m)) else .no) = _
  rw [tx_len, tx_len, tx_app]
@[simp] theorem lenD_tx (l : List Nat) : lenD (.str (tx l)) = if l.length ≤ sizeLine then .ok (.int (l.length : Int)) else .no := by
  show (if (tx l).length ≤ sizeLine then Res.ok (D.int ((tx l).length : Int)) else .no) = _
  rw [tx_len]
theorem tl_cutS (z : Str) (lo hi : Option Int) : tl (cutS z lo hi) = cutX (tl z) lo hi := by
  unfold cutS cutX
  rw [← len_tl]
@[simp] theorem slS_tx (l : List Nat) (lo hi : Option Int) : slS (.str (tx l)) lo hi = if l.length ≤ sizeLine then .ok (.str (tx (cutX l lo hi))) else .no := by
  show (if (tx l).length ≤ sizeLine then Res.ok (D.str (cutS (tx l) lo hi)) else .no) = _
  rw [tx_len, show cutS (tx l) lo hi = tx (cutX l lo hi) from ext_tl (by rw [tl_cutS, tl_tx, tl_tx])]
theorem strOk_tx {l : List Nat} (h : ∀ c ∈ l, c < 256) : PyData.strOk (tx l) = true := by
  unfold PyData.strOk
  rw [Array.all_eq_true']
  intro c hc
  have : c ∈ l := by
    have := Array.mem_toList_iff.mpr hc
    exact this
  have := h c this
  simp
  omega
/-- all signs are small -/
def Asc (l : List Nat) : Prop := ∀ c ∈ l, c < 256
instance (l : List Nat) : Decidable (Asc l) := inferInstanceAs (Decidable (∀ c ∈ l, c < 256))
theorem Asc.app {l m : List Nat} (h : Asc l) (g : Asc m) : Asc (l ++ m) := fun c hc => (List.mem_append.mp hc).elim (h c) (g c)
theorem Asc.cons {c : Nat} {m : List Nat} (h : c < 256) (g : Asc m) : Asc (c :: m) := fun d hd => (List.mem_cons.mp hd).elim (fun e => e ▸ h) (g d)
theorem eqD_tx {l m : List Nat} (neg : Bool) (hl : Asc l) (hm : Asc m) : eqD neg (.str (tx l)) (.str (tx m)) = .ok (.bl (if neg = true then !decide (l = m) else decide (l = m))) := by
  by_cases h : l = m
  · subst h
    have d : Dat 0 (.str (tx l)) := by unfold Dat; exact strOk_tx hl
    rw [eqD_same (n := 0) neg (by decide) d]
    cases neg <;> simp
  · have d : Dat 0 (.str (tx l)) := by unfold Dat; exact strOk_tx hl
    have d2 : Dat 0 (.str (tx m)) := by unfold Dat; exact strOk_tx hm
    rw [eqD_diff (n := 0) neg (by decide) d d2 (fun z => h (tx_inj.mp (D.str.inj z)))]
    cases neg <;> simp [h]
@[simp] theorem inSg_tx (neg : Bool) (c : Nat) (m : List Nat) : inSg neg (.str (tx [c])) (.str (tx m)) = .ok (.bl (if neg = true then !decide (c ∈ m) else decide (c ∈ m))) := rfl
@[simp] theorem ixD_tx (l : List Nat) (i : Int) : ixD (.str (tx l)) (.int i) = if l.length ≤ sizeLine then match atI l i with | some c => .ok (.str (tx [c])) | none => .no else .no := by
  show (if (tx l).length ≤ sizeLine then match atI (tx l).cps.toList i with | some c => Res.ok (D.str ⟨#[c]⟩) | none => .no else .no) = _
  rw [tx_len]
  rfl
@[simp] theorem signs_tx (l : List Nat) : signs (tx l) = l.map fun c => .str (tx [c]) := rfl
/-- what is left of a text's worth -/
def kSg (d : D) : Res (List D) := match d with
  | .str z => .ok (signs z)
  | _ => .no
@[simp] theorem gSeqS_e (g : Ev0 → Res D) (ρ : Ev0) : gSeqS g ρ = (g ρ).bind kSg := rfl
@[simp] theorem kSg_tx (l : List Nat) : kSg (.str (tx l)) = .ok (l.map fun c => .str (tx [c])) := rfl
def kM1 (ge : Ev0 → Res D) (op : Str → D → Res D) (ρ : Ev0) (a : D) : Res D := match a with
  | .str s => (ge ρ).bind fun b => op s b
  | _ => .no
@[simp] theorem gM1_e (go ge : Ev0 → Res D) (op : Str → D → Res D) (ρ : Ev0) : gM1 go ge op ρ = (go ρ).bind (kM1 ge op ρ) := rfl
@[simp] theorem kM1_str (ge : Ev0 → Res D) (op : Str → D → Res D) (ρ : Ev0) (s : Str) : kM1 ge op ρ (.str s) = (ge ρ).bind (op s) := rfl
theorem ascB {l : List Nat} (h : Asc l) : (tx l).cps.all (· < 256) = true := by
  rw [Array.all_eq_true']
  intro c hc
  have := h c (show c ∈ l from Array.mem_toList_iff.mpr hc)
  simp
  omega
theorem len_ne0 {b : List Nat} (h : b ≠ []) : ((tx b).length == 0) = false := by
  rw [tx_len]
  cases b with
  | nil => exact absurd rfl h
  | cons c r => rfl
theorem split_tx (a : List Nat) {b : List Nat} (hb : b ≠ []) (ha : Asc b) : Txt.split (tx a) (tx b) = (spl b 0 [] a).map tx := by
  apply map_tl_inj
  have := split_spl (tx a) (tx b) hb (kind_ok (ascB ha))
  rw [this, List.map_map]
  show spl b 0 [] a = _
  have : (tl ∘ tx) = id := funext fun l => tl_tx l
  rw [this, List.map_id]
theorem splitS_tx (a : List Nat) {b : List Nat} (hb : b ≠ []) (ha : Asc b) (h1 : a.length + 2 ≤ sizeLine) (h2 : (spl b 0 [] a).length ≤ sizeLine) : splitS (tx a) (.str (tx b)) = .ok (.lst ((spl b 0 [] a).map fun l => .str (tx l))) := by
  show (if ((tx b).length == 0) = false ∧ (tx a).length + 2 ≤ sizeLine ∧ (Txt.split (tx a) (tx b)).length ≤ sizeLine then Res.ok (D.lst ((Txt.split (tx a) (tx b)).map .str)) else .no) = _
  rw [split_tx a hb ha, if_pos ⟨len_ne0 hb, by rw [tx_len]; exact h1, by rw [List.length_map]; exact h2⟩, List.map_map]
  rfl
theorem partS_some {a b p r : List Nat} (hb : b ≠ []) (h1 : a.length ≤ sizeLine) (h : par b [] a = some (p, r)) : partS (tx a) (.str (tx b)) = .ok (.tup [.str (tx p), .str (tx b), .str (tx r)]) := by
  show (if ((tx b).length == 0) = false ∧ (tx a).length ≤ sizeLine then Res.ok (D.tup [.str (Txt.partition (tx a) (tx b)).1, .str (Txt.partition (tx a) (tx b)).2.1, .str (Txt.partition (tx a) (tx b)).2.2]) else .no) = _
  rw [if_pos ⟨len_ne0 hb, by rw [tx_len]; exact h1⟩]
  have := partition_par (tx a) (tx b) hb
  rw [tl_tx, tl_tx, h] at this
  rw [this]
  rfl
theorem partS_none {a b : List Nat} (hb : b ≠ []) (h1 : a.length ≤ sizeLine) (h : par b [] a = none) : partS (tx a) (.str (tx b)) = .ok (.tup [.str (tx a), .str (tx []), .str (tx [])]) := by
  show (if ((tx b).length == 0) = false ∧ (tx a).length ≤ sizeLine then Res.ok (D.tup [.str (Txt.partition (tx a) (tx b)).1, .str (Txt.partition (tx a) (tx b)).2.1, .str (Txt.partition (tx a) (tx b)).2.2]) else .no) = _
  rw [if_pos ⟨len_ne0 hb, by rw [tx_len]; exact h1⟩]
  have := partition_par (tx a) (tx b) hb
  rw [tl_tx, tl_tx, h] at this
  rw [this]
  rfl
theorem strsO_map : ∀ ys : List (List Nat), strsO (ys.map fun l => .str (tx l)) = some (ys.map tx)
  | [] => rfl
  | y :: ys => by
    rw [List.map_cons]
    unfold strsO
    rw [strsO_map ys]
    rfl
theorem joinS_tx (a : List Nat) (ys : List (List Nat)) (h : (ys.map (·.length)).sum + ys.length * a.length ≤ 16777216) : joinS (tx a) (.lst (ys.map fun l => .str (tx l))) = .ok (.str (tx (joinL a ys))) := by
  show (match strsO (ys.map fun l => D.str (tx l)) with
    | some ys => if (ys.map (fun y : Str => y.length)).sum + ys.length * (tx a).length ≤ 16777216 then Res.ok (D.str (Txt.join (tx a) ys)) else .no
    | none => .no) = _
  rw [strsO_map]
  have e : (ys.map tx).map (·.length) = ys.map (·.length) := by
    rw [List.map_map]
    exact List.map_congr_left fun l _ => tx_len l
  dsimp only
  rw [e, List.length_map, tx_len, if_pos h, join_eq]
  congr 2
  apply ext_tl
  rw [tl_join, tl_tx, tl_tx, List.map_map]
  have : (tl ∘ tx) = id := funext fun l => tl_tx l
  rw [this, List.map_id]
/-! ### numbers as texts -/
/-- the signs of a whole number -/
def numZ (i : Int) : List Nat := if i < 0 then 45 :: numL i.natAbs else numL i.natAbs
theorem ofInt_tx (i : Int) : Str.ofString (toString i) = tx (numZ i) := by
  apply ext_tl
  rw [tl_tx]
  unfold numZ
  cases i with
  | ofNat n =>
    rw [if_neg (by simp)]
    exact tl_num n
  | negSucc m =>
    rw [if_pos (Int.negSucc_lt_zero m)]
    have e : toString (Int.negSucc m) = "-" ++ Nat.repr (m + 1) := rfl
    have := tl_num (m + 1)
    rw [tl_ofString] at this
    rw [tl_ofString, e, String.toList_append, List.map_append]
    have e2 : toString ((m + 1 : Nat) : Int) = Nat.repr (m + 1) := rfl
    rw [e2] at this
    rw [this]
    rfl
@[simp] theorem strD_e (i : Int) : strD (.int i) = if i.natAbs.log2 < 1920 then .ok (.str (tx (numZ i))) else .no := by
  show (if i.natAbs.log2 < 1920 then Res.ok (D.str (Str.ofString (toString i))) else .no) = _
  rw [ofInt_tx]
theorem log2_lt {i : Int} {k : Nat} (h : i.natAbs < 2 ^ k) (hk : k ≤ 1920) (h0 : 0 < k) : i.natAbs.log2 < 1920 := by
  by_cases h1 : i.natAbs = 0
  · rw [h1]; decide
  · exact Nat.lt_of_lt_of_le ((Nat.log2_lt h1).mpr h) hk
/-- the figures of a text -/
def figs : List Nat → List Nat
  | 45 :: r => r
  | l => l
def valL : List Nat → Int
  | 45 :: r => -(NumText.digitsVal r : Int)
  | l => (NumText.digitsVal l : Int)
structure NumOk (l : List Nat) : Prop where
  ne : figs l ≠ []
  len : (figs l).length ≤ 60
  dg : NumText.AllDigits (figs l)
  z : (figs l).head? = some 48 → l = [48]
theorem numL_head {n : Nat} (h : n ≠ 0) : (numL n).head? ≠ some 48 := by
  induction n using Nat.strongRecOn with
  | _ n ih =>
    by_cases g : n < 10
    · rw [numL_lt g]
      simp
      omega
    · rw [numL_step (by omega)]
      have := ih (n / 10) (by omega) (by omega)
      cases e : numL (n / 10) with
      | nil => exact absurd e (numL_ne _)
      | cons c r => rw [e] at this; exact this
theorem figs_dig {l : List Nat} (h : NumText.AllDigits l) : figs l = l := by
  unfold figs
  split
  · rename_i r
    have := h 45 List.mem_cons_self
    omega
  · rfl
theorem valL_dig {l : List Nat} (h : NumText.AllDigits l) : valL l = (NumText.digitsVal l : Int) := by
  unfold valL
  split
  · rename_i r
    have := h 45 List.mem_cons_self
    omega
  · rfl
theorem figs_numZ (i : Int) : figs (numZ i) = numL i.natAbs := by
  unfold numZ
  split
  · rfl
  · exact figs_dig (numL_digits _)
theorem valL_numZ (i : Int) : valL (numZ i) = i := by
  unfold numZ
  split
  · show -(NumText.digitsVal (numL i.natAbs) : Int) = i
    rw [numL_val]
    omega
  · rw [valL_dig (numL_digits _), numL_val]
    omega
theorem numOk_int {i : Int} (h : i.natAbs < 10 ^ 60) : NumOk (numZ i) := by
  refine ⟨by rw [figs_numZ]; exact numL_ne _, by rw [figs_numZ]; exact numL_len (by decide) h, by rw [figs_numZ]; exact numL_digits _, fun hh => ?_⟩
  rw [figs_numZ] at hh
  by_cases h0 : i.natAbs = 0
  · have : i = 0 := by omega
    subst this
    rfl
  · exact absurd hh (numL_head h0)
theorem numZ_asc (i : Int) : Asc (numZ i) := by
  intro c hc
  have : c = 45 ∨ c ∈ numL i.natAbs := by
    unfold numZ at hc
    split at hc
    · exact List.mem_cons.mp hc
    · exact .inr hc
  rcases this with h | h
  · omega
  · have := numL_digits _ c h
    omega
theorem numZ_ne (i : Int) : numZ i ≠ [] := by
  unfold numZ
  split
  · simp
  · exact numL_ne _
theorem numZ_len {i : Int} {k : Nat} (hk : 0 < k) (h : i.natAbs < 10 ^ k) : (numZ i).length ≤ k + 1 := by
  have := numL_len hk h
  unfold numZ
  split
  · simp; omega
  · omega
theorem numZ_free {i : Int} {s : Nat} (h : s < 48 ∨ 57 < s) (h2 : s ≠ 45) : s ∉ numZ i := fun hm => by
  unfold numZ at hm
  split at hm
  · rcases List.mem_cons.mp hm with e | e
    · exact h2 e
    · exact numL_free h e
  · exact numL_free h hm
theorem intSD_ok {l : List Nat} (h : NumOk l) : intSD (.str (tx l)) = .ok (.int (valL l)) := by
  have hl : l.length ≤ 61 := by
    have := h.len
    unfold figs at this
    split at this
    · simp; omega
    · omega
  have key : PySem.intText? (tx l) = some (valL l) := by
    have dg := h.dg
    have ne := h.ne
    unfold figs at dg ne
    unfold valL
    split
    · rename_i r
      exact intText_neg (x := tx (45 :: r)) rfl dg ne (by rw [tx_len]; omega)
    · rename_i hn
      split at dg
      · exact absurd rfl (hn _)
      · split at ne
        · exact absurd rfl (hn _)
        · exact intText_digits (x := tx l) dg ne (by rw [tx_len]; omega)
  show (if (tx l).length ≤ 640 then match PySem.intText? (tx l) with | some n => Res.ok (D.int n) | none => .no else .no) = _
  rw [tx_len, if_pos (by omega), key]
end FL
namespace L2
open PySem PySem.Spec PyProof.Rows
/-! ### enumerate(a text) -/
def Itse (x : Str) : It :=
  ⟨fun i _ => i < x.cps.size, fun i H v H' => ∃ T c, v = .ref T ∧ H T = none ∧ H' = upd H T (.tup [.int (i : Nat), .str ⟨#[c]⟩]) ∧ x.cps[i]? = some c, fun i _ => x.cps.size ≤ i⟩
theorem draws_str {P : Program} {w : World} {A : Around} (hh : A.handled = none) (it : Addr) (x : Str) (t : Tok) (ty : String) (hty : ty = "str_ascii_iterator" ∨ ty = "str_iterator") :
    Draws P w A it [it] x.cps.size (fun i v => ∃ c u, x.cps[i]? = some c ∧ v = .str ⟨#[c]⟩ u) (fun i h => h.IsStrIter it ty x t i) := by
  rcases hty with e | e
  · subst e; exact Draws.strAscii hh it x t
  · subst e; exact Draws.strWide hh it x t
theorem turn_enumS {P : Program} {w : World} {K : PySem.W.Frag} {elts : List Expr} {kk : Nat} {tpos : Pos} (x : Str) (t : Tok) (ty : String) (hty : ty = "str_ascii_iterator" ∨ ty = "str_iterator") (e it : Addr) :
    Turn P w K (.Tuple elts kk tpos) (Itse x) [e, it] e (fun i h => (∃ old, IsEnum h e it ((i : Nat) : Int) old) ∧ h.IsStrIter it ty x t i ∧ e ≠ it ∧ i ≤ x.cps.size) where
  mem := by simp
  obj := fun i h st b hb => by
    obtain ⟨⟨old, he⟩, ⟨o, ho, hc, hd⟩, _⟩ := st
    have e' : b = e ∨ b = it := by simpa using hb
    rcases e' with z | z
    · rw [z]; exact ⟨_, he, fun v q => nomatch q⟩
    · rw [z]; exact ⟨o, ho, fun v q => by rw [hd] at q; cases q⟩
  keep := fun i h h' st k => let ⟨⟨old, he⟩, ⟨o, ho, hc, hd⟩, hne⟩ := st; ⟨⟨old, k e (by simp) _ he⟩, ⟨o, k it (by simp) _ ho, hc, hd⟩, hne⟩
  item := by
    intro X hP hw hK hc i pins s σ H E I hf st hg
    subst hP hw hK
    obtain ⟨⟨old, he⟩, hit, hne, hle⟩ := st
    have hlt : i < x.cps.size := hg
    have hel : e < s.heap.objs.size := Heap.lt_size he
    have hil : it < s.heap.objs.size := by obtain ⟨_, q, _⟩ := hit; exact Heap.lt_size q
    have D := draws_str (P := X.prog) (w := X.w) (A := X.A.in1) (I.ok.hd hc) it x t ty hty
    refine wpAny_pyNext_enum_itemD D he hit hlt hne (by simpa using hne) fun v h' tk hPx ho hit' hT hsz hk => ?_
    obtain ⟨c, u, hcx, rfl⟩ := hPx
    refine ⟨_, rfl, wpAny_letOwnedTupleGo_enum (s := { s with heap := h', toks := tk + 1 }) ho fun h'' he' sb => ?_⟩
    have hT2 : h''.get? s.heap.objs.size = some { cls := .type "tuple", data := .seq #[.int i tk, .str ⟨#[c]⟩ u] } := (sb.2 _ (Nat.ne_of_gt hel)).trans hT
    have new : ObjOk X.prog X.w (upd H s.heap.objs.size (.tup [.int (i : Nat), .str ⟨#[c]⟩])) h'' s.heap.objs.size (.tup [.int (i : Nat), .str ⟨#[c]⟩]) :=
      ⟨by show 2 ≤ sizeLine; decide, [.int i tk, .str ⟨#[c]⟩ u], .cons ⟨_, rfl⟩ (.cons ⟨_, rfl⟩ .nil), ⟨_, hT2, rfl, _, rfl⟩⟩
    have I1 : Inv X pins σ (upd H s.heap.objs.size (.tup [.int (i : Nat), .str ⟨#[c]⟩])) { s with heap := h'', toks := tk + 1 } :=
      I.turnedNew (ch := [e, it]) (fun b ob hb q => (sb.2 b (fun z => hb (by simp [z]))).trans (hk b ob (fun z => hb (by simp [z])) (fun z => hb (by simp [z])) q)) hf (Nat.le_refl _) new
    refine ⟨.ref s.heap.objs.size, _, I1, rfl, ⟨_, c, rfl, I.hok.fresh (Nat.le_refl _), rfl, hcx⟩, ⟨⟨.str ⟨#[c]⟩ u, ?_⟩, ?_, hne, by omega⟩, fun b hb => ?_⟩
    · have e1 : ((i + 1 : Nat) : Int) = (i : Int) + 1 := by omega
      rw [e1]; exact he'
    · obtain ⟨o, q1, q2, q3⟩ := hit'
      exact ⟨o, (sb.2 it (Ne.symm hne)).trans q1, q2, q3⟩
    · have hb' : b < s.heap.objs.size := by
        have e' : b = e ∨ b = it := by simpa using hb
        rcases e' with z | z
        · rw [z]; exact hel
        · rw [z]; exact hil
      rw [upd_ne (Nat.ne_of_lt hb')]
      exact (hf b hb).1
  done := by
    intro X hP hw hK hc i pins s σ H E I hf st hg
    subst hP hw hK
    obtain ⟨⟨old, he⟩, hit, hne, hle⟩ := st
    have hg : x.cps.size ≤ i := hg
    have ei : i = x.cps.size := by omega
    obtain ⟨f0, f1, f2, f3, f4, f5⟩ := hf it (by simp)
    have D := draws_str (P := X.prog) (w := X.w) (A := X.A.in1) (I.ok.hd hc) it x t ty hty
    subst ei
    refine wpAny_pyNext_enum_endD D he hit fun h' eb => ⟨rfl, I.turned (t' := s.toks) (fun b o hb q => eb b o hb q) f0 f1 f3 f4 f5⟩
  self := fun A i s Q E st h => let ⟨⟨_, he⟩, _⟩ := st; wpAny_pyIter_enum he h
def iEnumS (ta : TA) : TI := fun σ H R => ta σ H fun vs H1 => ∃ x, vs = [.str x] ∧ R (Itse x) H1
theorem pi_enumS {X : Cx} {e : Expr} {ta : TA} {p pos tpos : Pos} {elts : List Expr} {kk : Nat} (hg : Gl X "enumerate") (hm : X.mg "enumerate" = none) (ha : PA X [e] ta) (hs : starEach [e] X.env = [(false, eval e X.env)] := by rfl) :
    PI X (.Tuple elts kk tpos) (.Call (.Name "enumerate" p) [e] [] pos) (iEnumS ta) := by
  refine ⟨fun pins s σ H R I h => ?_⟩
  refine Call_ (ld_blt I hg hm boot_enumerate (PyProof.Rows.callWith_type1 (thn (ha.run pos pins s σ H _ I h) fun us s1 ⟨vs, H1, I1, r1, q1⟩ => ?_) hs rfl))
  obtain ⟨x, ex, q⟩ := q1
  subst ex
  cases r1 with
  | cons r rr =>
    cases rr
    obtain ⟨t, rfl⟩ := r
    have hty : strIterType x = "str_ascii_iterator" ∨ strIterType x = "str_iterator" := by
      unfold strIterType
      split
      · exact .inl rfl
      · exact .inr rfl
    refine call_enumerate_str fun h' he hit hsz hk => wpAny_pyIter_enum he ?_
    have I2 : Inv X pins σ H1 { s1 with heap := h' } := I1.kept (t' := s1.toks) hk
    refine ⟨s1.heap.objs.size + 1, [s1.heap.objs.size + 1, s1.heap.objs.size], _, _, H1, rfl, I2, turn_enumS x t _ hty (s1.heap.objs.size + 1) s1.heap.objs.size, ⟨⟨.none, he⟩, hit, Nat.succ_ne_self _, Nat.zero_le _⟩, fun b hb => ?_, q⟩
    have e' : b = s1.heap.objs.size + 1 ∨ b = s1.heap.objs.size := by simpa using hb
    have hle : s1.heap.objs.size ≤ b := by
      rcases e' with z | z
      · rw [z]; exact Nat.le_add_right _ _
      · rw [z]; exact Nat.le_refl _
    exact I1.fpOk hle (I1.hok.fresh hle)
end L2
namespace FL
open PySem PySem.Spec PyProof.Rows L2
variable {Γ : Gx}
section
variable {ι : Type} {X : ι → Cx} {W : WX} {M : List Nat} {e : Expr} {ka : Kd} {pos p : Pos} {ga : Ev0 → Res D}
def gEnumS (g : Ev0 → Res D) : Ev0 → Res (List D) := fun ρ => (g ρ).bind fun d => match d with
  | .str z => .ok (enumD 0 (signs z))
  | _ => .no
theorem itse_R {F : Hp} {x : Str} : ItR Γ F (Itse x) (enumD 0 (signs x)) := fun i F1 H1 s1 s2 => by
  have hl : (signs x).length = x.cps.size := by simp [signs]
  refine ⟨fun d hd => ?_, fun h => ?_⟩
  · rw [enumD_get, Option.map_eq_some_iff] at hd
    obtain ⟨d0, hd0, rfl⟩ := hd
    have hi : i < x.cps.size := by
      rw [← hl]
      exact (List.getElem?_eq_some_iff.mp hd0).1
    refine ⟨hi, fun v H2 y => ?_⟩
    obtain ⟨T, c, rfl, hT, rfl, hc⟩ := y
    unfold signs at hd0
    rw [List.getElem?_map, Array.getElem?_toList, hc] at hd0
    cases hd0
    refine ⟨upd F1 T (.tup [.int (i : Nat), .str ⟨#[c]⟩]), Ext.new s2 hT, .tup (.inl ⟨rfl, upd_same⟩) ?_⟩
    rw [Nat.zero_add]
    exact .cons (.int _) (.cons (.str _) .nil)
  · show x.cps.size ≤ i
    rw [enumD_len] at h
    omega
theorem fi_enumS {elts : List Expr} {kk : Nat} {tpos : Pos} (hg : ∀ i, Gl (X i) "enumerate") (hm : ∀ i, (X i).mg "enumerate" = none) (h : FE Γ X W M e ka ga) (hs : ∀ i, starEach [e] (X i).env = [(false, eval e (X i).env)]) (hs2 : ∀ i, starEach [e] (X i).env = (false, eval e (X i).env) :: starEach [] (X i).env) :
    FI Γ X W M (.Tuple elts kk tpos) (.Call (.Name "enumerate" p) [e] [] pos) (gEnumS ga) := by
  obtain ⟨t, pe, ev⟩ := h.ob.ex
  refine ⟨_, fun i => pi_enumS (hg i) (hm i) (pa_one (pe i) (hs2 i)) (hs i), fun F0 H0 F H σ ρ Q E hp => ?_⟩
  show t σ H _
  refine EvG.bind ev (fun _ _ _ _ _ _ _ h => h) E hp fun d F1 H1 x e1 E1 r1 hp1 => ?_
  have r1 : Rep Γ H1 x d := r1
  cases r1 with
  | str z => exact ⟨z, rfl, hp1 F1 H1 _ (Ext.refl E1.same) itse_R⟩
  | _ => exact hp1.elim
def kEnS (d : D) : Res (List D) := match d with
  | .str z => .ok (enumD 0 (signs z))
  | _ => .no
@[simp] theorem gEnumS_e (g : Ev0 → Res D) (ρ : Ev0) : gEnumS g ρ = (g ρ).bind kEnS := rfl
@[simp] theorem kEnS_tx (l : List Nat) : kEnS (.str (tx l)) = .ok (enumD 0 (l.map fun c => .str (tx [c]))) := rfl
end
end FL
namespace FL
open PySem L2 TL
theorem at_one {l : List Nat} {c i : Nat} : StrLaws.At (tx l) (tx [c]) (tx l).length i ↔ l[i]? = some c := by
  rw [at_iff (by rw [tl_tx]; simp), tl_tx, tl_tx]
  unfold pre
  by_cases h : i < l.length
  · rw [List.drop_eq_getElem_cons h, List.getElem?_eq_getElem h, List.length_singleton, List.take_succ_cons, List.take_zero]
    simp only [beq_iff_eq, List.cons.injEq, and_true, Option.some.injEq]
  · rw [List.drop_eq_nil_of_le (by omega), List.getElem?_eq_none (by omega)]
    simp
theorem find_tx (l : List Nat) (c : Nat) : ∃ v : Int, findS (tx l) (.str (tx [c])) = .ok (.int v) ∧ ((v = -1 ∧ c ∉ l) ∨ ∃ i : Nat, v = i ∧ l[i]? = some c ∧ ∀ k, k < i → l[k]? ≠ some c) := by
  refine ⟨_, rfl, ?_⟩
  rcases PyProof.Rows.find_whole (tx l) (tx [c]) with ⟨h1, h2⟩ | ⟨i, h1, h2, h3⟩
  · refine .inl ⟨h1, fun hm => ?_⟩
    obtain ⟨i, hi⟩ := List.mem_iff_getElem?.mp hm
    exact h2 i (at_one.mpr hi)
  · exact .inr ⟨i, h1, at_one.mp h2, fun k hk z => h3 k hk (at_one.mpr z)⟩
theorem rfind_tx (l : List Nat) (c : Nat) : ∃ v : Int, rfindS (tx l) (.str (tx [c])) = .ok (.int v) ∧ ((v = -1 ∧ c ∉ l) ∨ ∃ i : Nat, v = i ∧ l[i]? = some c ∧ ∀ k, i < k → l[k]? ≠ some c) := by
  refine ⟨_, rfl, ?_⟩
  rcases PyProof.Rows.rfind_whole (tx l) (tx [c]) with ⟨h1, h2⟩ | ⟨i, h1, h2, h3⟩
  · refine .inl ⟨h1, fun hm => ?_⟩
    obtain ⟨i, hi⟩ := List.mem_iff_getElem?.mp hm
    exact h2 i (at_one.mpr hi)
  · exact .inr ⟨i, h1, at_one.mp h2, fun k hk z => h3 k hk (at_one.mpr z)⟩
end FL
namespace L2
open PySem PySem.Spec PyProof.Rows
/-! ### sorted(set(pairs)), len(set(pairs)) -/
section
variable {P : Program} {w : World} {A : Around} {E : Value → Shared → Prop} {s : Shared}
def encP (q : Addr × List Int) : PyData := .tuple [.int (q.2.getD 0 0), .int (q.2.getD 1 0)]
theorem reads_pair {h : Heap} {k : List Int} {b : Addr} (x : IsT P w h k b) (hl : k.length = 2) : Reads h (.ref b) (.tuple [.int (k.getD 0 0), .int (k.getD 1 0)]) [] := by
  obtain ⟨o, items, n, ho, hc, hd, hi⟩ := x
  have hi := ints_of_items hi
  match k, hl with
  | [i, j], _ =>
    obtain ⟨vs, e⟩ : ∃ vs, items.toList = vs := ⟨_, rfl⟩
    rw [e] at hi
    cases hi with
    | cons _ t1 r =>
      cases r with
      | cons _ t2 r2 =>
        cases r2
        exact .tuple ho hc hd (by rw [e]; exact .cons (.int _ _) (.cons (.int _ _) .nil))
theorem each_refs {R : Value → (Addr × List Int) → Prop} : ∀ {L : List (Addr × List Int)}, (∀ q ∈ L, R (.ref q.1) q) → PySem.W.EachIs R (L.map fun q => Value.ref q.1) L
  | [], _ => .nil
  | q :: L, h => .cons (h q List.mem_cons_self) (each_refs fun x hx => h x (List.mem_cons_of_mem _ hx))
theorem refs_each : ∀ {out : List Value} {bs : List (Addr × List Int)}, PySem.W.EachIs (fun v (q : Addr × List Int) => v = Value.ref q.1) out bs → out = bs.map fun q => Value.ref q.1
  | _, _, .nil => rfl
  | _, _, .cons h t => by rw [h, refs_each t]; rfl
theorem sorted_setP {a : Addr} {L : List (Addr × List Int)} {es : Array (Int × Value)} {ep : Nat} {t : SetTable} {Q : Value → Shared → Prop} (R : SetTR P w s.heap a L es ep t) (hh : A.handled = none)
    (hu : A.units + 64 < cLine) (h2 : ∀ p ∈ L, p.2.length = 2)
    (hQ : ∀ s' p (out : Array Value) (c : Nat) (L' : List (Addr × List Int)), (∀ b o, s.heap.get? b = some o → s'.heap.get? b = some o) → s'.gens = s.gens → s'.os = s.os → s.heap.objs.size ≤ p →
      s'.heap.get? p = some (seqObj "list" out c) → out.toList = L'.map (fun q => Value.ref q.1) → L'.Perm L → (∃ L1 : List (Addr × List Int), L' = L1.mergeSort (PySem.W.dataLe false encP)) → Q (.ref p) s') :
    wpAny (model P w) A (call (.builtin "sorted") [.ref a]) Q E s := by
  obtain ⟨o, ho, hex, hd⟩ := R.ob
  have hsz := R.size
  have hfew := R.few
  refine Calls.call_function_entry kind_sorted plain_sorted entry_sorted (args_sorted1 _) ?_
  unfold Builtin.«sorted»
  refine wpAny_bind (m := checkCount "sorted" 1 1 _) (wpAny_pure ?_)
  refine wpAny_bind (collect_set (A := A.in1) hh ⟨o, ho, hex.1, hd⟩ R.fits (by unfold scanBound; omega) R.tab.ris R.led fun s1 vs k1 hz g1 o1 pm => ?_)
  have hes : es.toList.map (·.2) = L.map fun q => Value.ref q.1 := by
    rw [R.rows]
    unfold rowsOf
    rw [List.map_map] <;> rfl
  rw [hes] at pm
  have ord : ∀ vs : List Value, (∀ v ∈ vs, ∃ q ∈ L, v = Value.ref q.1) → ∃ L1 : List (Addr × List Int), vs = L1.map (fun q => Value.ref q.1) ∧ ∀ q ∈ L1, q ∈ L := by
    intro vs
    induction vs with
    | nil => intro _; exact ⟨[], rfl, fun q hq => (by cases hq)⟩
    | cons v vs ih =>
      intro hv
      obtain ⟨q, hq, e⟩ := hv v List.mem_cons_self
      obtain ⟨L1, e1, hs⟩ := ih fun u hu => hv u (List.mem_cons_of_mem _ hu)
      refine ⟨q :: L1, by rw [List.map_cons, e, e1], fun r hr => ?_⟩
      rcases List.mem_cons.mp hr with z | z
      · rw [z]; exact hq
      · exact hs r z
  have one : ∀ q ∈ L, ∀ r ∈ L, q.1 = r.1 → q = r := fun q hq r hr e => by
    have a1 := R.tup q hq
    have a2 := R.tup r hr
    rw [e] at a1
    have e2 : q.2 = r.2 := a1.inj a2
    exact Prod.ext e e2
  have perm_of : ∀ L1 : List (Addr × List Int), (∀ q ∈ L1, q ∈ L) → (L1.map (fun q => Value.ref q.1)).Perm (L.map fun q => Value.ref q.1) → L1.Perm L := by
    intro L1 hs pm1
    have nL : L.Nodup := nodup_of_map R.nd
    have nref : (L.map fun q => Value.ref q.1).Nodup := by
      refine List.pairwise_map.mpr (List.Pairwise.imp_of_mem (fun {q r} hq hr hne e => ?_) nL)
      injection e with e
      exact hne (one q hq r hr e)
    have n1 : L1.Nodup := nodup_of_map (pm1.nodup_iff.mpr nref)
    refine (List.perm_ext_iff_of_nodup n1 nL).mpr fun q => ⟨hs q, fun hq => ?_⟩
    have hm : Value.ref q.1 ∈ L1.map (fun q => Value.ref q.1) := pm1.mem_iff.mpr (List.mem_map.mpr ⟨q, hq, rfl⟩)
    obtain ⟨r, hr, e⟩ := List.mem_map.mp hm
    injection e with e
    rw [← one r (hs r hr) q hq e]
    exact hr
  have hvl : vs.length < 64 := by rw [pm.length_eq, List.length_map]; exact hfew
  obtain ⟨L1, e1, hs1⟩ := ord vs fun v hv => by
    obtain ⟨q, hq, e⟩ := List.mem_map.mp (pm.mem_iff.mp hv)
    exact ⟨q, hq, e.symm⟩
  have pL1 : L1.Perm L := perm_of L1 hs1 (by rw [← e1]; exact pm)
  refine wpAny_bind (wpAny_newList ?_ (by rw [sizeLine_eq]; omega))
  have hoL : (s1.heap.push (seqObj "list" vs.toArray 0)).get? s1.heap.objs.size = some (seqObj "list" vs.toArray 0) := Heap.get?_push_size _ rfl
  have er : PySem.W.EachIs (fun v (q : Addr × List Int) => ∃ as, Reads (s1.heap.push (seqObj "list" vs.toArray 0)) v (encP q) as ∧ s1.heap.objs.size ∉ as) vs L1 := by
    rw [e1]
    refine each_refs fun q hq => ⟨[], reads_pair (P := P) (w := w) (isT_keep (R.tup q (hs1 q hq)) fun b u e => Heap.get?_push_of_some _ (k1 b u e)) (h2 q (hs1 q hq)), by simp⟩
  have ev : PySem.W.EachIs (fun v (q : Addr × List Int) => v = Value.ref q.1) vs L1 := by
    rw [e1]
    exact each_refs fun q _ => rfl
  refine wpAny_bind (wpAny_holding (PySem.W.list_sort_data (s := { s1 with heap := s1.heap.push (seqObj "list" vs.toArray 0) }) (enc := encP) hoL ev er ?_ ?_ ?_ ?_ fun out ho hout => ?_))
  · exact PySem.W.AllAlike.of fun b b' => rfl
  · exact PySem.W.Sortable.tuples fun b => ⟨_, _, rfl⟩
  · rw [pL1.length_eq, sizeLine_eq]; omega
  · intro b _
    have : (encP b).depth = 1 := rfl
    rw [this]
    have e3 : A.in1.units = A.units + 1 := rfl
    first | omega | (rw [e3]; omega)
  · have hc := sortedHeap_at (vs := vs) (out := out.toArray) hoL
    obtain ⟨c, hc⟩ := hc
    have eo := refs_each hout
    have pw := List.mergeSort_perm L1 (PySem.W.dataLe false encP)
    refine wpAny_pure ⟨_, rfl, hQ _ s1.heap.objs.size out.toArray c (L1.mergeSort (PySem.W.dataLe false encP)) (fun b u e => ?_) g1 o1 hz hc (by simpa using eo) (pw.trans pL1) ⟨L1, rfl⟩⟩
    have q := k1 b u e
    have hlt := Heap.lt_size q
    show (sortedHeap (s1.heap.push (seqObj "list" vs.toArray 0)) s1.heap.objs.size vs out.toArray).get? b = some u
    rw [sortedHeap_old (Nat.ne_of_lt hlt) (by rw [size_push']; exact Nat.lt_succ_of_lt hlt)]
    exact Heap.get?_push_of_some _ q
end
/-- a list of references to pairs -/
def PairsAt (K : PySem.W.Frag) (H : Hp) (l : Addr) (ks : List (Addr × List Int)) : Prop := SqL K H l (ks.map fun p => V.ref p.1) ∧ (∀ p ∈ ks, SqT K H p.1 (p.2.map V.int)) ∧ (∀ p ∈ ks, p.2.length = 2) ∧ ks.length < 64
def tLenSetP (K : PySem.W.Frag) (ta : TE) : TE := fun σ H Q => ta σ H fun x H1 => ∃ (l : Addr) (ks : List (Addr × List Int)), x = .ref l ∧ PairsAt K H1 l ks ∧ ∀ L : List (Addr × List Int), (∀ p ∈ L, p ∈ ks) → (∀ p ∈ ks, p.2 ∈ L.map (·.2)) → (L.map (·.2)).Nodup → Q (.int L.length) H1
def tSortSetP (K : PySem.W.Frag) (ta : TE) : TE := fun σ H Q => ta σ H fun x H1 => ∃ (l : Addr) (ks : List (Addr × List Int)), x = .ref l ∧ PairsAt K H1 l ks ∧ ∀ L : List (Addr × List Int), (∀ p ∈ L, p ∈ ks) → (∀ p ∈ ks, p.2 ∈ L.map (·.2)) → (L.map (·.2)).Nodup → (∃ L1 : List (Addr × List Int), L = L1.mergeSort (PySem.W.dataLe false encP)) →
  ∀ q, H1 q = none → Q (.ref q) (upd H1 q (.lst (L.map fun p => V.ref p.1)))
theorem pe_lenSetP {X : Cx} {a : Expr} {ta : TE} {p p2 q pos : Pos} (hg : Gl X "len") (hm : X.mg "len" = none) (hg2 : Gl X "set") (hm2 : X.mg "set" = none) (ha : PE X a ta) (hc : X.calm = true) (hu : X.A.units + 64 < cLine)
    (na : starEach [a] X.env = (false, eval a X.env) :: starEach [] X.env) (nb : starEach [.Call (.Name "set" p2) [a] [] q] X.env = (false, eval (.Call (.Name "set" p2) [a] [] q) X.env) :: starEach [] X.env) : PE X (.Call (.Name "len" p) [.Call (.Name "set" p2) [a] [] q] [] pos) (tLenSetP X.K ta) := by
  refine ⟨fun pins s σ H Q I h => ?_⟩
  refine Call_ (ld_blt I hg hm boot_len ?_)
  refine PyProof.Rows.callWith_builtin1 (PyProof.Rows.args_cons ?_ nb) nb rfl
  refine Call_ (ld_blt I hg2 hm2 boot_set ?_)
  refine PyProof.Rows.callWith_type1 (PyProof.Rows.args_cons (thn (ha.run pins s σ H _ I h) fun v s1 ⟨x, H1, I1, r1, q1⟩ => PyProof.Rows.args_nil ?_) na) na rfl
  obtain ⟨l, ks, rfl, ⟨hl, hk, h2, hf⟩, q1⟩ := q1
  cases r1
  obtain ⟨its, rv, pl, hz⟩ := I1.list hl
  refine call_set_tups (P := X.prog) (w := X.w) ks (I1.ok.hd hc) pl.isList (by simpa using refs_of_vals rv) (fun p hp => I1.isT (hk p hp)) hf (by omega) fun h' tk L es ep t R g k => ?_
  refine PyProof.Rows.args_nil ?_
  obtain ⟨o, ho, hex, hd⟩ := R.ob
  have hsz : es.size = L.length := SetTR.size (s := { s1 with heap := h', toks := tk }) R
  have hfew := R.few
  have I2 : Inv X pins σ H1 { s1 with heap := h', toks := tk } := I1.kept fun b o e => k b o e
  refine call_len_set ho hex hd (SetTR.fits (s := { s1 with heap := h', toks := tk }) R) (by omega) ⟨.int L.length, H1, I2.tok _, ⟨_, by rw [hsz]⟩, q1 L (fun p hp => ?_) (fun p hp => ?_) R.nd⟩
  · exact List.mem_of_mem_take (g.sub p hp)
  · exact g.all p (by rw [List.take_length]; exact hp)
theorem pe_sortSetP {X : Cx} {a : Expr} {ta : TE} {p p2 q pos : Pos} (hg : Gl X "sorted") (hm : X.mg "sorted" = none) (hg2 : Gl X "set") (hm2 : X.mg "set" = none) (ha : PE X a ta) (hc : X.calm = true) (hu : X.A.units + 64 < cLine)
    (na : starEach [a] X.env = (false, eval a X.env) :: starEach [] X.env) (nb : starEach [.Call (.Name "set" p2) [a] [] q] X.env = (false, eval (.Call (.Name "set" p2) [a] [] q) X.env) :: starEach [] X.env) : PE X (.Call (.Name "sorted" p) [.Call (.Name "set" p2) [a] [] q] [] pos) (tSortSetP X.K ta) := by
  refine ⟨fun pins s σ H Q I h => ?_⟩
  refine Call_ (ld_blt I hg hm (show bootBuiltins ("sorted" : Str) = some (.builtin "sorted") by decide +kernel) ?_)
  refine PyProof.Rows.callWith_builtin1 (PyProof.Rows.args_cons ?_ nb) nb rfl
  refine Call_ (ld_blt I hg2 hm2 boot_set ?_)
  refine PyProof.Rows.callWith_type1 (PyProof.Rows.args_cons (thn (ha.run pins s σ H _ I h) fun v s1 ⟨x, H1, I1, r1, q1⟩ => PyProof.Rows.args_nil ?_) na) na rfl
  obtain ⟨l, ks, rfl, ⟨hl, hk, h2, hf⟩, q1⟩ := q1
  cases r1
  obtain ⟨its, rv, pl, hz⟩ := I1.list hl
  refine call_set_tups (P := X.prog) (w := X.w) ks (I1.ok.hd hc) pl.isList (by simpa using refs_of_vals rv) (fun p hp => I1.isT (hk p hp)) hf (by omega) fun h' tk L es ep t R g k => ?_
  refine PyProof.Rows.args_nil ?_
  have I2 : Inv X pins σ H1 { s1 with heap := h', toks := tk } := I1.kept fun b o e => k b o e
  refine sorted_setP (s := { s1 with heap := h', toks := tk }) R (I2.ok.hd hc) hu (fun p hp => h2 p (List.mem_of_mem_take (g.sub p hp))) fun s' p out c L' k' g' o' hp hg hout pm srt => ?_
  have hfew : L'.length < 64 := by rw [pm.length_eq]; exact R.few
  have hlen : (L'.map fun q => V.ref q.1).length ≤ sizeLine := by rw [List.length_map, sizeLine_eq]; omega
  have hn : H1 p = none := I2.hok.fresh hp
  have hv : Vals (L'.map fun q => V.ref q.1) out.toList := by rw [hout]; exact vals_of_refs L'
  have J : Inv X pins σ (upd H1 p (.lst (L'.map fun q => V.ref q.1))) { ({ s1 with heap := h', toks := tk } : Shared) with heap := s'.heap, gens := s'.gens, drawn := s'.drawn, toks := s'.toks } :=
    I2.call (ch := []) (Un.laid k' hp hn) (I2.hok.laid k' hp ⟨hlen, out.toList, c, hv, hg⟩) (by rw [g']; exact I2.bare) (fun _ z => nomatch z)
  have e : s' = { ({ s1 with heap := h', toks := tk } : Shared) with heap := s'.heap, gens := s'.gens, drawn := s'.drawn, toks := s'.toks } := by
    cases s'
    cases s1
    cases o'
    rfl
  rw [e]
  refine ⟨.ref p, _, J, rfl, q1 L' (fun p hp => ?_) (fun p hp => ?_) ((pm.map (·.2)).nodup_iff.mpr R.nd) srt p hn⟩
  · exact List.mem_of_mem_take (g.sub p (pm.mem_iff.mp hp))
  · exact (pm.map (·.2)).mem_iff.mpr (g.all p (by rw [List.take_length]; exact hp))
end L2
namespace FL
open PySem PySem.Spec PyProof.Rows L2
variable {Γ : Gx}
def pairsI : List D → Option (List (Int × Int))
  | [] => some []
  | .tup [.int x, .int y] :: r => (pairsI r).map ((x, y) :: ·)
  | _ => none
theorem pairsI_map : ∀ ps : List (Int × Int), pairsI (ps.map eP) = some ps
  | [] => rfl
  | p :: ps => by
    rw [List.map_cons]
    show (pairsI (ps.map eP)).map ((p.1, p.2) :: ·) = _
    rw [pairsI_map ps]
    rfl
def dedP : List (Int × Int) → List (Int × Int)
  | [] => []
  | p :: ps => if p ∈ dedP ps then dedP ps else p :: dedP ps
theorem dedP_mem : ∀ {ps : List (Int × Int)} {x : Int × Int}, x ∈ dedP ps ↔ x ∈ ps
  | [], x => Iff.rfl
  | p :: ps, x => by
    have ih := @dedP_mem ps
    unfold dedP
    split
    · rename_i h
      rw [ih, List.mem_cons]
      exact ⟨.inr, fun k => k.elim (fun e => by rw [e]; exact ih.mp h) id⟩
    · rw [List.mem_cons, List.mem_cons, ih]
theorem dedP_nodup : ∀ ps : List (Int × Int), (dedP ps).Nodup
  | [] => .nil
  | p :: ps => by
    unfold dedP
    split
    · exact dedP_nodup ps
    · rename_i h
      exact List.nodup_cons.mpr ⟨h, dedP_nodup ps⟩
def leP2 (p q : Int × Int) : Bool := decide (p.1 < q.1 ∨ (p.1 = q.1 ∧ p.2 ≤ q.2))
def lenSetP : D → Res D
  | .lst ds => match pairsI ds with
    | some ps => if ps.length < 64 then .ok (.int ((dedP ps).length : Nat)) else .no
    | none => .no
  | _ => .no
def sortSetP : D → Res D
  | .lst ds => match pairsI ds with
    | some ps => if ps.length < 64 then .ok (.lst (((dedP ps).mergeSort leP2).map eP)) else .no
    | none => .no
  | _ => .no
def toL (p : Int × Int) : List Int := [p.1, p.2]
theorem pairs_rep {F : Hp} : ∀ {xs : List V} {ds : List D} {ps : List (Int × Int)}, RepL Γ F xs ds → pairsI ds = some ps →
    ∃ ks : List (Addr × List Int), xs = ks.map (fun q => V.ref q.1) ∧ ks.map (·.2) = ps.map toL ∧ ∀ q ∈ ks, SqT Γ.K F q.1 (q.2.map V.int) ∧ q.2.length = 2 ∧ Rep Γ F (.ref q.1) (eP (q.2.getD 0 0, q.2.getD 1 0))
  | _, _, _, .nil, e => by cases e; exact ⟨[], rfl, rfl, fun q h => by cases h⟩
  | v :: vs, d :: ds, ps, .cons h r, e => by
    unfold pairsI at e
    split at e
    · rename_i e0; cases e0
    · rename_i x y r' e0
      cases e0
      rw [Option.map_eq_some_iff] at e
      obtain ⟨ps', h1, rfl⟩ := e
      obtain ⟨ks, k1, k2, k3⟩ := pairs_rep r h1
      cases h with
      | tup ht hr =>
        rename_i a xs
        have hr' := hr
        cases hr with
        | cons q1 rr =>
          cases q1
          cases rr with
          | cons q2 rr =>
            cases q2
            cases rr
            refine ⟨(a, [x, y]) :: ks, by rw [List.map_cons, k1], by rw [List.map_cons, k2]; rfl, fun q hq => ?_⟩
            rcases List.mem_cons.mp hq with z | z
            · rw [z]; exact ⟨ht.seqT, rfl, .tup ht hr'⟩
            · exact k3 q z
    · cases e
theorem toL_inj {p q : Int × Int} (h : toL p = toL q) : p = q := by
  unfold toL at h
  simp at h
  exact Prod.ext h.1 h.2
theorem key_back {k : List Int} (h : k.length = 2) : toL (k.getD 0 0, k.getD 1 0) = k := by
  match k, h with
  | [i, j], _ => rfl
/-- the keys of a set are the list's own, each once -/
theorem keys_of {ks L : List (Addr × List Int)} {ps : List (Int × Int)} (e : ks.map (·.2) = ps.map toL) (h1 : ∀ p ∈ L, p ∈ ks) (h2 : ∀ p ∈ ks, p.2 ∈ L.map (·.2)) (hl : ∀ q ∈ ks, q.2.length = 2) :
    ∀ x : Int × Int, x ∈ L.map (fun q => (q.2.getD 0 0, q.2.getD 1 0)) ↔ x ∈ dedP ps := fun x => by
  rw [dedP_mem]
  constructor
  · intro h
    obtain ⟨q, hq, rfl⟩ := List.mem_map.mp h
    have hk := h1 q hq
    have : q.2 ∈ ps.map toL := by rw [← e]; exact List.mem_map.mpr ⟨q, hk, rfl⟩
    obtain ⟨p, hp, ep⟩ := List.mem_map.mp this
    have := toL_inj (ep.trans (key_back (hl q hk)).symm)
    rw [← this]
    exact hp
  · intro h
    have : toL x ∈ ks.map (·.2) := by rw [e]; exact List.mem_map.mpr ⟨x, h, rfl⟩
    obtain ⟨q, hq, eq⟩ := List.mem_map.mp this
    have := h2 q hq
    obtain ⟨r, hr, er⟩ := List.mem_map.mp this
    refine List.mem_map.mpr ⟨r, hr, ?_⟩
    refine toL_inj ?_
    rw [key_back (hl r (h1 r hr)), er, eq]
theorem keys_nodup {L : List (Addr × List Int)} (nd : (L.map (·.2)).Nodup) (hl : ∀ q ∈ L, q.2.length = 2) : (L.map fun q => (q.2.getD 0 0, q.2.getD 1 0)).Nodup := by
  refine List.pairwise_map.mpr (List.Pairwise.imp_of_mem (fun {q r} hq hr hne e => ?_) (List.pairwise_map.mp nd))
  refine hne ?_
  rw [← key_back (hl q hq), ← key_back (hl r hr), e]
def ltP2 (p q : Int × Int) : Prop := p.1 < q.1 ∨ (p.1 = q.1 ∧ p.2 < q.2)
theorem lt_unique : ∀ {l m : List (Int × Int)}, l.Pairwise ltP2 → m.Pairwise ltP2 → (∀ x, x ∈ l ↔ x ∈ m) → l = m
  | [], [], _, _, _ => rfl
  | [], b :: m, _, _, h => by have := (h b).mpr List.mem_cons_self; cases this
  | a :: l, [], _, _, h => by have := (h a).mp List.mem_cons_self; cases this
  | a :: l, b :: m, hl, hm, h => by
    obtain ⟨l1, l2⟩ := List.pairwise_cons.mp hl
    obtain ⟨m1, m2⟩ := List.pairwise_cons.mp hm
    have asym : ∀ p q : Int × Int, ltP2 p q → ltP2 q p → False := fun p q h1 h2 => by unfold ltP2 at h1 h2; omega
    have e : a = b := by
      rcases List.mem_cons.mp ((h a).mp List.mem_cons_self) with e | k1
      · exact e
      · rcases List.mem_cons.mp ((h b).mpr List.mem_cons_self) with e | k2
        · exact e.symm
        · exact absurd (l1 b k2) fun z => asym _ _ z (m1 a k1)
    subst e
    congr 1
    refine lt_unique l2 m2 fun x => ?_
    constructor
    · intro hx
      rcases List.mem_cons.mp ((h x).mp (List.mem_cons_of_mem _ hx)) with e | k
      · subst e; exact absurd (l1 x hx) fun z => asym _ _ z z
      · exact k
    · intro hx
      rcases List.mem_cons.mp ((h x).mpr (List.mem_cons_of_mem _ hx)) with e | k
      · subst e; exact absurd (m1 x hx) fun z => asym _ _ z z
      · exact k
theorem strict_of {l : List (Int × Int)} (h : l.Pairwise (fun p q => leP2 p q = true)) (nd : l.Nodup) : l.Pairwise ltP2 := by
  refine List.Pairwise.imp₂ (fun p q h1 h2 => ?_) h nd
  unfold leP2 at h1
  have h1 := of_decide_eq_true h1
  unfold ltP2
  by_cases e : p.1 = q.1 ∧ p.2 = q.2
  · exact absurd (Prod.ext e.1 e.2) h2
  · omega
theorem sort_leP2 (l : List (Int × Int)) : (l.mergeSort leP2).Pairwise fun p q => leP2 p q = true :=
  List.pairwise_mergeSort (fun a b c h1 h2 => by unfold leP2 at *; simp at *; omega) (fun a b => by unfold leP2; simp; omega) l
theorem sort_keys {ks L L1 : List (Addr × List Int)} {ps : List (Int × Int)} (e : ks.map (·.2) = ps.map toL) (h1 : ∀ p ∈ L, p ∈ ks) (h2 : ∀ p ∈ ks, p.2 ∈ L.map (·.2)) (hl : ∀ q ∈ ks, q.2.length = 2) (nd : (L.map (·.2)).Nodup) (hs : L = L1.mergeSort (PySem.W.dataLe false encP)) :
    L.map (fun q => (q.2.getD 0 0, q.2.getD 1 0)) = (dedP ps).mergeSort leP2 := by
  have dl : PySem.W.dataLe false encP = fun p q : Addr × List Int => leP2 (p.2.getD 0 0, p.2.getD 1 0) (q.2.getD 0 0, q.2.getD 1 0) := PySem.W.dataLe_ii (fun q : Addr × List Int => q.2.getD 0 0) (fun q => q.2.getD 1 0)
  have p1 : L.Pairwise fun p q => leP2 (p.2.getD 0 0, p.2.getD 1 0) (q.2.getD 0 0, q.2.getD 1 0) = true := by
    rw [hs, dl]
    exact List.pairwise_mergeSort (le := fun p q : Addr × List Int => leP2 (p.2.getD 0 0, p.2.getD 1 0) (q.2.getD 0 0, q.2.getD 1 0)) (fun a b c h1 h2 => by unfold leP2 at *; simp only [decide_eq_true_eq] at *; omega) (fun a b => by unfold leP2; simp only [Bool.or_eq_true, decide_eq_true_eq]; omega) L1
  refine lt_unique (strict_of (List.pairwise_map.mpr p1) (keys_nodup nd fun q hq => hl q (h1 q hq))) (strict_of (sort_leP2 _) ((List.mergeSort_perm _ _).nodup_iff.mpr (dedP_nodup ps))) fun x => ?_
  rw [keys_of e h1 h2 hl, List.mem_mergeSort]
section
variable {ι : Type} {X : ι → Cx} {W : WX} {M : List Nat} {e : Expr} {ka : Kd} {pos p p2 q : Pos} {ga : Ev0 → Res D}
theorem fe_lenSetP (A : Amb Γ X) (hg : ∀ i, Gl (X i) "len") (hm : ∀ i, (X i).mg "len" = none) (hg2 : ∀ i, Gl (X i) "set") (hm2 : ∀ i, (X i).mg "set" = none) (h : FE Γ X W M e ka ga)
    (na : ∀ i, starEach [e] (X i).env = (false, eval e (X i).env) :: starEach [] (X i).env) (nb : ∀ i, starEach [.Call (.Name "set" p2) [e] [] q] (X i).env = (false, eval (.Call (.Name "set" p2) [e] [] q) (X i).env) :: starEach [] (X i).env) :
    FE Γ X W M (.Call (.Name "len" p) [.Call (.Name "set" p2) [e] [] q] [] pos) .sh (g1 ga lenSetP) := by
  obtain ⟨t, pe, ev⟩ := h.ob.ex
  refine ⟨tLenSetP Γ.K t, fun i => by rw [← A.K i]; exact pe_lenSetP (hg i) (hm i) (hg2 i) (hm2 i) (pe i) (A.calm i) (A.un i) (na i) (nb i), fun F0 H0 F H σ ρ Q E hp => ?_⟩
  show t σ H _
  refine EvG.bind ev RE.mono E hp fun d F1 H1 x e1 E1 r1 hp1 => ?_
  replace r1 : Rep Γ H1 x d := r1
  unfold lenSetP at hp1
  split at hp1
  · split at hp1
    · split at hp1
      · rename_i ps hn hl
        cases r1 with
        | @lst p xs ds h1 r =>
          obtain ⟨ks, k1, k2, k3⟩ := pairs_rep r hn
          subst k1
          have kl : ks.length = ps.length := by have := congrArg List.length k2; simpa using this
          refine ⟨p, ks, rfl, ⟨.inl (.inl h1), fun q hq => (k3 q hq).1, fun q hq => (k3 q hq).2.1, by omega⟩, fun L m1 m2 nd => ?_⟩
          have nn := keys_nodup nd fun q hq => (k3 q (m1 q hq)).2.1
          have pm := (List.perm_ext_iff_of_nodup nn (dedP_nodup ps)).mpr (keys_of k2 m1 m2 fun q hq => (k3 q hq).2.1)
          have hlen := pm.length_eq
          rw [List.length_map] at hlen
          rw [hlen]
          exact hp1 F1 H1 _ (Ext.refl E1.same) (.int _)
      · exact hp1.elim
    · exact hp1.elim
  · exact hp1.elim
theorem fe_sortSetP (A : Amb Γ X) (hg : ∀ i, Gl (X i) "sorted") (hm : ∀ i, (X i).mg "sorted" = none) (hg2 : ∀ i, Gl (X i) "set") (hm2 : ∀ i, (X i).mg "set" = none) (h : FE Γ X W M e ka ga) (hk : ka ≠ .ob := by intro z; cases z)
    (na : ∀ i, starEach [e] (X i).env = (false, eval e (X i).env) :: starEach [] (X i).env) (nb : ∀ i, starEach [.Call (.Name "set" p2) [e] [] q] (X i).env = (false, eval (.Call (.Name "set" p2) [e] [] q) (X i).env) :: starEach [] (X i).env) :
    FE Γ X W M (.Call (.Name "sorted" p) [.Call (.Name "set" p2) [e] [] q] [] pos) .ow (g1 ga sortSetP) := by
  obtain ⟨t, pe, ev⟩ := (h.ov hk).ex
  refine ⟨tSortSetP Γ.K t, fun i => by rw [← A.K i]; exact pe_sortSetP (hg i) (hm i) (hg2 i) (hm2 i) (pe i) (A.calm i) (A.un i) (na i) (nb i), fun F0 H0 F H σ ρ Q E hp => ?_⟩
  show t σ H _
  refine EvG.bind ev RE.mono E hp fun d F1 H1 x e1 E1 r1 hp1 => ?_
  replace r1 : Rep1 Γ F1 H1 x d := r1
  unfold sortSetP at hp1
  split at hp1
  · split at hp1
    · split at hp1
      · rename_i ds ps hn hl
        obtain ⟨p, xs, rfl, h1, r⟩ := Rep1.lst E1.same r1
        obtain ⟨ks, k1, k2, k3⟩ := pairs_rep r hn
        subst k1
        have kl : ks.length = ps.length := by have := congrArg List.length k2; simpa using this
        refine ⟨p, ks, rfl, ⟨.inl h1, fun q hq => ?_, fun q hq => (k3 q hq).2.1, by omega⟩, fun L m1 m2 nd ⟨L1, hs⟩ q hq => ?_⟩
        · exact Same.seqT E1.same (k3 q hq).1
        · have sk := sort_keys k2 m1 m2 (fun q hq => (k3 q hq).2.1) nd hs
          have rl : ∀ L0 : List (Addr × List Int), (∀ q ∈ L0, q ∈ ks) → RepL Γ F1 (L0.map fun q => V.ref q.1) ((L0.map fun q => (q.2.getD 0 0, q.2.getD 1 0)).map eP) := fun L0 => by
            induction L0 with
            | nil => intro _; exact .nil
            | cons a L0 ih =>
              intro hL
              exact .cons (k3 a (hL a List.mem_cons_self)).2.2 (ih fun x hx => hL x (List.mem_cons_of_mem _ hx))
          have rl := rl L m1
          rw [sk] at rl
          exact hp1 _ _ _ (Ext.own E1.same hq) ⟨q, _, rfl, hq, E1.same.free hq, upd_same, .lst rl⟩
      · exact hp1.elim
    · exact hp1.elim
  · exact hp1.elim
end
@[simp] theorem lenSetP_e (ps : List (Int × Int)) : lenSetP (.lst (ps.map eP)) = if ps.length < 64 then .ok (.int ((dedP ps).length : Nat)) else .no := by
  unfold lenSetP
  dsimp only
  rw [pairsI_map]
@[simp] theorem sortSetP_e (ps : List (Int × Int)) : sortSetP (.lst (ps.map eP)) = if ps.length < 64 then .ok (.lst (((dedP ps).mergeSort leP2).map eP)) else .no := by
  unfold sortSetP
  dsimp only
  rw [pairsI_map]
end FL
namespace FL
open PySem PySem.Spec PyProof.Rows L2
variable {Γ : Gx}
/-! ### told lists whose own lists are changed in the end -/
def rlO : HO → Bool
  | .lst _ => true
  | _ => false
theorem norl {o : HO} (h : ∀ xs, o ≠ .lst xs) : rlO o = false := by
  cases o with
  | lst xs => exact absurd rfl (h xs)
  | _ => rfl
def RLF (F : Hp) : Prop := ∀ a o, F a = some o → rlO o = false
/-- without lists -/
def strip (F : Hp) : Hp := fun a => match F a with
  | some o => if rlO o = true then none else some o
  | none => none
theorem strip_some {F : Hp} {a : Addr} {o : HO} (h : strip F a = some o) : F a = some o ∧ rlO o = false := by
  unfold strip at h
  cases z : F a with
  | none => rw [z] at h; cases h
  | some u =>
    rw [z] at h
    dsimp only at h
    cases q : rlO u with
    | true => rw [q] at h; simp at h
    | false => rw [q] at h; simp at h; subst h; exact ⟨rfl, q⟩
theorem strip_of {F : Hp} {a : Addr} {o : HO} (h : F a = some o) (n : rlO o = false) : strip F a = some o := by
  unfold strip
  rw [h]
  dsimp only
  rw [n]
  rfl
theorem strip_same (F : Hp) : Same (strip F) F := fun a o h => (strip_some h).1
theorem strip_free (F : Hp) : RLF (strip F) := fun a o h => (strip_some h).2
theorem strip_none {F : Hp} {a : Addr} (h : F a = none) : strip F a = none := by
  unfold strip
  rw [h]
theorem strip_rl {F : Hp} {a : Addr} {o : HO} (h : F a = some o) (n : rlO o = true) : strip F a = none := by
  unfold strip
  rw [h]
  dsimp only
  rw [n]
  rfl
/-- a datum without lists -/
def nl : Nat → D → Bool
  | 0, _ => false
  | n + 1, d => match d with
    | .non => true
    | .bl _ => true
    | .int _ => true
    | .str _ => true
    | .tup ds => ds.all (nl n)
    | .obj _ fs => fs.all fun f => nl n f.2
    | _ => false
theorem RepL.allR {F F' : Hp} {p : D → Bool} (h : ∀ v d, Rep Γ F v d → p d = true → Rep Γ F' v d) : ∀ {vs : List V} {ds : List D}, RepL Γ F vs ds → ds.all p = true → RepL Γ F' vs ds
  | _, _, .nil, _ => .nil
  | _, _, .cons r rs, e => by
    rw [List.all_cons, Bool.and_eq_true] at e
    exact .cons (h _ _ r e.1) (RepL.allR h rs e.2)
theorem Rep.keep {F G : Hp} (hG : ∀ a o, F a = some o → (∀ xs, o ≠ .lst xs) → G a = some o) : ∀ (n : Nat) (v : V) (d : D), Rep Γ F v d → nl n d = true → Rep Γ G v d
  | 0, _, _, _, h => by cases h
  | n + 1, v, d, r, h => by
    cases r with
    | non => exact .non
    | bl b => exact .bl b
    | int i => exact .int i
    | str s => exact .str s
    | tup hk rs =>
      refine .tup ?_ (rs.allR (Rep.keep hG n) h)
      rcases hk with ⟨a, b⟩ | ⟨a, o, b, c⟩
      · exact .inl ⟨a, hG _ _ b fun _ z => nomatch z⟩
      · exact .inr ⟨a, o, b, hG _ _ c fun _ z => nomatch z⟩
    | ctup _ _ => cases h
    | lst _ _ => cases h
    | dK _ _ _ => cases h
    | dT _ _ _ => cases h
    | obj hf hc hk rs =>
      refine .obj (hG _ _ hf fun _ z => nomatch z) hc hk (rs.allR (Rep.keep hG n) ?_)
      rw [List.all_map]
      exact h
    | scr hs => cases h
theorem Rep.strip {F : Hp} (n : Nat) (v : V) (d : D) (r : Rep Γ F v d) (h : nl n d = true) : Rep Γ (strip F) v d := Rep.keep (fun a o e hn => strip_of e (norl hn)) n v d r h
def nlK : Option D → Bool
  | some d => nl 7 d
  | none => true
def join2 (F0 F2 : Hp) : Hp := fun a => match F2 a with
  | some o => some o
  | none => F0 a
theorem join2_r {F0 F2 : Hp} : Same F2 (join2 F0 F2) := fun a o h => by
  unfold join2
  rw [h]
theorem join2_some {F0 F2 : Hp} {a : Addr} {o : HO} (h : join2 F0 F2 a = some o) : F2 a = some o ∨ F0 a = some o := by
  unfold join2 at h
  cases z : F2 a with
  | some u => rw [z] at h; cases h; exact .inl rfl
  | none => rw [z] at h; exact .inr h
theorem ext_join {F H F2 H2 : Hp} (s : Same F H) (e : Ext (strip F) H F2 H2) : Ext F H (join2 F F2) H2 := by
  refine ⟨fun a o h => ?_, e.h, fun a o h => ?_, fun a o h => ?_⟩
  · unfold join2
    cases z : F2 a with
    | none => exact h
    | some u =>
      have h1 := e.h _ _ (s _ _ h)
      have h2 := e.i _ _ z
      rw [h1] at h2
      cases h2
      rfl
  · rcases join2_some h with h | h
    · exact e.i _ _ h
    · exact e.h _ _ (s _ _ h)
  · rcases join2_some h with h | h
    · rcases e.n _ _ h with ⟨u, g⟩ | g | g
      · exact .inl ⟨u, (strip_some g).1⟩
      · exact .inr (.inl g)
      · exact .inr (.inr g)
    · exact .inl ⟨o, h⟩
/-! the judgement for a frozen heap without such lists at its base -/
def SvN (Γ : Gx) (W : WX) (M : List Nat) (m : Mds) (kr : Kd) (t : TS) (g : Ev0 → Out) : Prop :=
  ∀ F0 H0 F H σ ρ D, RLF F0 → EO Γ F0 H0 F H M σ ρ → PostS Γ W F F0 H0 D m kr (g ρ) → t D σ H
structure FSsN {ι : Type} (Γ : Gx) (X : ι → Cx) (W : WX) (M : List Nat) (m : Mds) (kr : Kd) (st : List Stmt) (g : Ev0 → Out) : Prop where
  ex : ∃ t : TS, (∀ i, PSs (X i) st t) ∧ SvN Γ W M m kr t g
def keepE (js : List Nat) : Nat → Ev0 → Ev0
  | _, [] => []
  | k, d :: ρ => (if js.contains k = true then d else none) :: keepE js (k + 1) ρ
theorem keepE_len (js : List Nat) : ∀ (k : Nat) (ρ : Ev0), (keepE js k ρ).length = ρ.length
  | _, [] => rfl
  | k, _ :: ρ => congrArg (· + 1) (keepE_len js (k + 1) ρ)
theorem keepE_at {js : List Nat} : ∀ {k : Nat} {ρ : Ev0} {i : Nat} {d : D}, (keepE js k ρ)[i]? = some (some d) → js.contains (k + i) = true ∧ ρ[i]? = some (some d)
  | _, [], _, _, h => by simp [keepE] at h
  | k, x :: ρ, 0, d, h => by
    unfold keepE at h
    simp only [List.getElem?_cons_zero, Option.some.injEq] at h
    by_cases z : js.contains k = true
    · rw [if_pos z] at h
      exact ⟨z, by rw [h]; rfl⟩
    · rw [if_neg z] at h; cases h
  | k, x :: ρ, i + 1, d, h => by
    unfold keepE at h
    rw [List.getElem?_cons_succ] at h
    obtain ⟨a, b⟩ := keepE_at h
    exact ⟨by rw [show k + (i + 1) = k + 1 + i by omega]; exact a, by rw [List.getElem?_cons_succ]; exact b⟩
def oThaw (js : List Nat) (g : Ev0 → Out) : Ev0 → Out := fun ρ => if (keepE js 0 ρ).all nlK = true then (match g (keepE js 0 ρ) with
  | .rt d => .rt d
  | .ex c => .ex c
  | _ => .no) else .no
theorem oThaw_rt {js : List Nat} {g : Ev0 → Out} {ρ : Ev0} {d : D} (h1 : (keepE js 0 ρ).all nlK = true) (h : g (keepE js 0 ρ) = .rt d) : oThaw js g ρ = .rt d := by
  unfold oThaw
  rw [if_pos h1, h]
section
variable {ι : Type} {X : ι → Cx} {W : WX} {M M1 : List Nat} {m : Mds} {kr : Kd} {st : Stmt} {sts rest : List Stmt} {g g' : Ev0 → Out}
theorem fssN_of (h : FSs Γ X W M m kr sts g) : FSsN Γ X W M m kr sts g := by
  obtain ⟨t, p, s⟩ := h.ex
  exact ⟨t, p, fun F0 H0 F H σ ρ D _ => s F0 H0 F H σ ρ D⟩
theorem fssN_cons (h1 : FS Γ X W M ⟨M1, m.bk, m.ct⟩ kr st g) (h2 : FSsN Γ X W M1 m kr rest g') : FSsN Γ X W M m kr (st :: rest) (oSeq g g') := by
  obtain ⟨t, p, s1⟩ := h1.ex
  obtain ⟨u, q, s2⟩ := h2.ex
  refine ⟨_, fun i => pss_cons (p i) (q i), fun F0 H0 F H σ ρ D hF E hp => ?_⟩
  refine s1 F0 H0 F H σ ρ { D with nx := u D } E ?_
  unfold oSeq at hp
  cases z : g ρ with
  | nx ρ' =>
    rw [z] at hp
    exact fun F' H' σ' s' E' => s2 F0 H0 F' H' σ' ρ' D hF E' (hp.mono s')
  | rt d => rw [z] at hp; exact hp
  | bk ρ' => rw [z] at hp; exact hp
  | ct ρ' => rw [z] at hp; exact hp
  | ex c => rw [z] at hp; exact hp
  | no => rw [z] at hp; exact hp
/-- from here on the lists of before are not spoken of -/
theorem fss_thaw (js : List Nat) (hst : ∀ j, js.contains j = true → M.contains j = false) (h : FSsN Γ X W [] m .sh sts g) : FSs Γ X W M m .sh sts (oThaw js g) := by
  obtain ⟨t, p, s⟩ := h.ex
  refine ⟨t, p, fun F0 H0 F H σ ρ D E hp => ?_⟩
  unfold oThaw at hp
  by_cases hn : (keepE js 0 ρ).all nlK = true
  · rw [if_pos hn] at hp
    have sS : Same (strip F) H := (strip_same F).trans E.same
    have E' : EO Γ (strip F) H (strip F) H [] σ (keepE js 0 ρ) := by
      refine ⟨by rw [keepE_len]; exact E.len, Ext.refl sS, fun i d h => ?_, fun i j p d e _ h => by cases h⟩
      obtain ⟨h1, h2⟩ := keepE_at h
      rw [Nat.zero_add] at h1
      obtain ⟨v, g1, g2⟩ := E.slot i d h2
      rw [hst i h1] at g2
      have nk : nl 7 d = true := List.all_eq_true.mp hn (some d) (List.mem_of_getElem? h)
      exact ⟨v, g1, Rep.strip 7 v d g2 nk⟩
    refine s (strip F) H (strip F) H σ (keepE js 0 ρ) D (strip_free F) E' ?_
    cases hb : g (keepE js 0 ρ) with
    | nx ρ' => rw [hb] at hp; exact hp.elim
    | rt d => rw [hb] at hp; exact fun F2 H2 v e q => hp (join2 F F2) H2 v (E.ext.trans (ext_join E.same e)) (Rep.mono join2_r q)
    | bk ρ' => rw [hb] at hp; exact hp.elim
    | ct ρ' => rw [hb] at hp; exact hp.elim
    | ex c => rw [hb] at hp; exact fun F2 H2 σ' C e q => hp (join2 F F2) H2 σ' C (E.ext.trans (ext_join E.same e)) q
    | no => rw [hb] at hp; exact hp.elim
  · rw [if_neg hn] at hp
    exact hp.elim
end
end FL
namespace FL
open PySem PySem.Spec PyProof.Rows L2
variable {Γ : Gx}
/-- new own objects -/
inductive FrL (Γ : Gx) (H1 F H : Hp) : List Addr → List D → Prop
  | nil : FrL Γ H1 F H [] []
  | cons {c : Addr} {cs : List Addr} {d : D} {ds : List D} {o : HO} : H1 c = none → F c = none → H c = some o → Hold Γ F o d → FrL Γ H1 F H cs ds → FrL Γ H1 F H (c :: cs) (d :: ds)
theorem FrL.app {H1 F H : Hp} : ∀ {cs es : List Addr} {ds fs : List D}, FrL Γ H1 F H cs ds → FrL Γ H1 F H es fs → FrL Γ H1 F H (cs ++ es) (ds ++ fs)
  | _, _, _, _, .nil, s => s
  | _, _, _, _, .cons a b c d r, s => .cons a b c d (FrL.app r s)
theorem FrL.ext {H1 F H F' H' : Hp} (e : Ext F H F' H') : ∀ {cs : List Addr} {ds : List D}, FrL Γ H1 F H cs ds → FrL Γ H1 F' H' cs ds
  | _, _, .nil => .nil
  | _, _, .cons a b c d r => by
    refine .cons a ?_ (e.h _ _ c) (d.mono e.f) (FrL.ext e r)
    rename_i x _ _ _ o
    cases z : F' x with
    | none => rfl
    | some u =>
      rcases e.n _ _ z with ⟨w, y⟩ | y | ⟨xs, y⟩
      · rw [b] at y; cases y
      · rw [c] at y; cases y
      · rw [c] at y; cases y; exact absurd rfl (d.ntup _)
theorem FrL.set {H1 F H : Hp} {A : Addr} {o : HO} : ∀ {cs : List Addr} {ds : List D}, FrL Γ H1 F H cs ds → A ∉ cs → FrL Γ H1 F (L2.upd H A o) cs ds
  | _, _, .nil, _ => .nil
  | _, _, .cons a b c d r, h => .cons a b (by rw [upd_ne (fun z => h (by rw [z]; exact List.mem_cons_self))]; exact c) d (FrL.set r fun z => h (List.mem_cons_of_mem _ z))
theorem FrL.at {H1 F H : Hp} : ∀ {cs : List Addr} {ds : List D}, FrL Γ H1 F H cs ds → ∀ c ∈ cs, H1 c = none ∧ F c = none ∧ ∃ o, H c = some o
  | _, _, .nil, _, h => by cases h
  | _, _, .cons a b c d r, x, h => by
    rcases List.mem_cons.mp h with rfl | h
    · exact ⟨a, b, _, c⟩
    · exact FrL.at r x h
theorem FrL.len {H1 F H : Hp} : ∀ {cs : List Addr} {ds : List D}, FrL Γ H1 F H cs ds → cs.length = ds.length
  | _, _, .nil => rfl
  | _, _, .cons _ _ _ _ r => congrArg (· + 1) r.len
section
variable {M is : List Nat}
theorem lc_deep {F0 H0 F1 H1 : Hp} {σ : L2.St} {ρ : Ev0} {J : It} {ds : List D} {Q : V → Hp → Prop} {g : TG} {tt : TT} {te : TE} {vs : List Nat} {b : D → Ev0 → Res Ev0} {gt : Ev0 → Res Bool} {ge : Ev0 → Res D} (hg : TgOk Γ M is g b) (hsub : ∀ i ∈ is, i ∈ vs)
    (ht : EvG Γ W0 M tt RB gt) (he : EvG Γ W0 M te (RE Γ .ow) ge) (E1 : EO Γ F0 H0 F1 H1 M σ ρ) (rI : ItR Γ F1 J ds) {r : List D} (hc : compO vs b gt ge ρ ds = .ok r) (hl : r.length ≤ sizeLine)
    (hQ : ∀ F' H' A cs, Ext F1 H1 F' H' → H1 A = none → F' A = none → H' A = some (.lst (cs.map V.ref)) → FrL Γ H1 F' H' cs r → A ∉ cs → cs.Nodup → Q (.ref A) H') : lcT g tt te vs σ Q J H1 := by
  intro A hA
  refine ⟨fun i n H' => n = ds.length - i ∧ i ≤ ds.length ∧ ∃ F' cs da r', Ext F1 H1 F' H' ∧ F' A = none ∧ H' A = some (.lst (cs.map V.ref)) ∧ FrL Γ H1 F' H' cs da ∧ A ∉ cs ∧ cs.Nodup ∧ compO vs b gt ge ρ (ds.drop i) = .ok r' ∧ da ++ r' = r, ⟨ds.length, by simp, Nat.zero_le _, F1, [], [], r, Ext.own E1.same hA, E1.same.free hA, upd_same, .nil, by simp, List.nodup_nil, hc, rfl⟩, ?_⟩
  rintro i n H' ⟨rfl, hil, F', cs, da, r', e', fA, hHA, ra, nA, nd, hr', hda⟩
  obtain ⟨hgo, hstop⟩ := rI i F' H' e'.f e'.i
  by_cases hlt : i < ds.length
  · refine .inr ?_
    obtain ⟨go, hy⟩ := hgo _ (List.getElem?_eq_getElem hlt)
    refine ⟨go, fun H2 => i + 1 ≤ ds.length ∧ ∃ F' cs da r', Ext F1 H1 F' H2 ∧ F' A = none ∧ H2 A = some (.lst (cs.map V.ref)) ∧ FrL Γ H1 F' H2 cs da ∧ A ∉ cs ∧ cs.Nodup ∧ compO vs b gt ge ρ (ds.drop (i + 1)) = .ok r' ∧ da ++ r' = r, fun H2 ⟨h1, h2⟩ => ⟨ds.length - (i + 1), by omega, rfl, h1, h2⟩, fun x H2 y => ?_⟩
    obtain ⟨F2, e2, rx⟩ := hy x H2 y
    rw [List.drop_eq_getElem_cons hlt] at hr'
    unfold compO at hr'
    cases hb : b (ds[i]) (wipeE ρ vs) with
    | ex c => rw [hb] at hr'; cases hr'
    | no => rw [hb] at hr'; cases hr'
    | ok ρ1 =>
      rw [hb] at hr'
      dsimp only at hr'
      have E2 := (E1.extend (e'.trans e2)).wipe vs
      have keepA : ∀ {F3 H3 : Hp}, Ext F' H' F3 H3 → F3 A = none ∧ H3 A = some (.lst (cs.map V.ref)) := fun {F3 H3} e3 => by
        refine ⟨?_, e3.h _ _ hHA⟩
        cases z : F3 A with
        | none => rfl
        | some u =>
          rcases e3.n _ _ z with ⟨w, y⟩ | y | ⟨xs, y⟩
          · rw [fA] at y; cases y
          · rw [hHA] at y; cases y
          · rw [hHA] at y; cases y
      refine hg F0 H0 F2 H2 _ _ x _ ρ1 _ E2 rx hb fun σ3 E3 w3 => ?_
      refine ⟨(w3 vs hsub).trans (wipe_wipe σ vs), ?_⟩
      refine ht F0 H0 F2 H2 σ3 ρ1 _ E3 ?_
      cases htt : gt ρ1 with
      | ex c => rw [htt] at hr'; cases hr'
      | no => rw [htt] at hr'; cases hr'
      | ok t =>
        intro F3 H3 t' e3 et
        subst et
        have e13 := (e'.trans e2).trans e3
        rw [htt] at hr'
        cases t' with
        | false =>
          obtain ⟨a1, a2⟩ := keepA (e2.trans e3)
          exact iteF ⟨hlt, F3, cs, da, r', e13, a1, a2, ra.ext (e2.trans e3), nA, nd, hr', hda⟩
        | true =>
          refine iteT ?_
          refine he F0 H0 F3 H3 σ3 ρ1 _ (E3.extend e3) ?_
          cases hge : ge ρ1 with
          | ex c => rw [hge] at hr'; cases hr'
          | no => rw [hge] at hr'; cases hr'
          | ok yd =>
            rw [hge] at hr'
            dsimp only at hr'
            cases hre : compO vs b gt ge ρ (ds.drop (i + 1)) with
            | ex c => rw [hre] at hr'; cases hr'
            | no => rw [hre] at hr'; cases hr'
            | ok r2 =>
              rw [hre] at hr'
              have hr' : Res.ok (yd :: r2) = Res.ok r' := hr'
              cases hr'
              intro F4 H4 yv e4 ry
              obtain ⟨p, o, rfl, p3, p4, p5, p6⟩ := ry
              obtain ⟨a1, a2⟩ := keepA ((e2.trans e3).trans e4)
              have b2 := (keepA (e2.trans e3)).2
              have e14 := e13.trans e4
              have ra4 := ra.ext ((e2.trans e3).trans e4)
              have ra3 := ra.ext (e2.trans e3)
              have npA : p ≠ A := fun z => by rw [z, b2] at p3; cases p3
              have ncs : p ∉ cs := fun z => by
                obtain ⟨_, _, o', h⟩ := ra3.at p z
                rw [h] at p3
                cases p3
              have ll := ra.len
              have l2 : (da ++ yd :: r2).length = r.length := by rw [hda]
              rw [List.length_append, List.length_cons] at l2
              refine ⟨cs.map V.ref, a2, by rw [List.length_map]; omega, hlt, F4, cs ++ [p], da ++ [yd], r2, ?_, a1, by rw [upd_same, List.map_append]; rfl, ?_, ?_, ?_, hre.symm ▸ rfl, by rw [List.append_assoc]; exact hda⟩
              · refine ⟨e14.f, fun b' x' z => ?_, fun b' x' z => ?_, e14.n⟩
                · rw [upd_ne (ne_of_none z hA)]
                  exact e14.h _ _ z
                · rw [upd_ne (ne_of_none z a1)]
                  exact e14.i _ _ z
              · exact (ra4.set nA).app (.cons (e13.h.free p3) p4 (by rw [upd_ne npA]; exact p5) p6 .nil)
              · intro z
                rcases List.mem_append.mp z with z | z
                · exact nA z
                · exact npA (List.mem_singleton.mp z).symm
              · refine List.nodup_append.mpr ⟨nd, by simp, fun a ha b hb => ?_⟩
                rw [List.mem_singleton.mp hb]
                exact fun z => ncs (by rw [← z]; exact ha)
  · refine .inl ⟨hstop (by omega), ?_⟩
    have hd0 : ds.drop i = [] := List.drop_eq_nil_of_le (by omega)
    rw [hd0] at hr'
    unfold compO at hr'
    cases hr'
    rw [List.append_nil] at hda
    subst hda
    exact hQ F' H' A cs e' hA fA hHA ra nA nd
end
def nlO : D → Bool
  | .lst es => es.all (nl 6)
  | _ => false
/-- the new objects are shared from now on, over another frozen heap -/
theorem FrL.freeze {F0 H0 H1 F H : Hp} : ∀ {cs : List Addr} {ds : List D} {G : Hp}, FrL Γ H1 F H cs ds → Same H0 H1 → ds.all nlO = true → cs.Nodup → Ext F0 H0 G H → (∀ a o, F a = some o → (∀ xs, o ≠ .lst xs) → G a = some o) → (∀ c ∈ cs, G c = none) →
    ∃ G1, Same G G1 ∧ Ext F0 H0 G1 H ∧ (∀ a, a ∉ cs → G1 a = G a) ∧ RepL Γ G1 (cs.map V.ref) ds
  | _, _, G, .nil, _, _, _, e, _, _ => ⟨G, Same.refl G, e, fun a _ => rfl, .nil⟩
  | _, _, G, @FrL.cons _ _ _ _ c cs d ds o h1 hf ho hh r, s0, hn, nd, e, hG, hc => by
    rw [List.all_cons, Bool.and_eq_true] at hn
    have nd := List.nodup_cons.mp nd
    have gc : G c = none := hc c List.mem_cons_self
    have e1 : Ext F0 H0 (L2.upd G c o) H := e.freeze (s0.free h1) gc ho
    have sg : Same G (L2.upd G c o) := same_new gc
    obtain ⟨G1, g1, g2, g3, g4⟩ := FrL.freeze r s0 hn.2 nd.2 e1 (fun a o' z n => sg _ _ (hG a o' z n)) fun c' hc' => by
      rw [upd_ne (fun z => nd.1 (by rw [← z]; exact hc'))]
      exact hc c' (List.mem_cons_of_mem _ hc')
    refine ⟨G1, sg.trans g1, g2, fun a ha => ?_, .cons ?_ g4⟩
    · rw [g3 a fun z => ha (List.mem_cons_of_mem _ z), upd_ne (fun z => ha (by rw [z]; exact List.mem_cons_self))]
    · have gcc : G1 c = some o := g1 _ _ upd_same
      cases hh with
      | lst rr => exact .lst gcc (rr.allR (Rep.keep (fun a o' z n => g1 _ _ (sg _ _ (hG a o' z n))) 6) hn.1)
      | dK _ _ => cases hn.1
      | dT _ _ => cases hn.1
end FL
namespace FL
open PySem PySem.Spec PyProof.Rows L2
variable {Γ : Gx}
/-! ### the end of a law: copies are kept, the told lists are changed -/
def okE : D → Bool
  | .lst es => es.all (nl 6) && decide (es.length ≤ 1000000)
  | _ => false
def deepOk (jv n : Nat) (js : List Nat) (ds r : List D) (ρ : Ev0) : Bool := ds.all okE && (r.all nlO && ((keepE js 0 ρ).all nlK && (decide (ds.length ≤ 1000000) && (decide (r.length ≤ 1000000) && (decide (jv < ρ.length) && decide (n < ρ.length))))))
def oDeepT (i0 n jv : Nat) (js vs : List Nat) (b : D → Ev0 → Res Ev0) (ge : Ev0 → Res D) (g' : Ev0 → Out) : Ev0 → Out := fun ρ => match ρ[i0]? with
  | some (some (.lst ds)) => match compO vs b gYes ge ρ ds with
    | .ok r => if deepOk jv n js ds r ρ = true then g' (((keepE js 0 ρ).set n (some (.lst r))).set jv none) else .no
    | _ => .no
  | _ => .no
/-- a statement that changes the list in slot i, whatever it holds -/
structure MutS {ι : Type} (X : ι → Cx) (st : Stmt) (i : Nat) : Prop where
  ex : ∃ t : TS, (∀ j, PS (X j) st t) ∧ ∀ (D : Ends) (σ : L2.St) (H : Hp) (b : Addr) (xs : List V), σ[i]? = some (some (.ref b)) → H b = some (.lst xs) → xs.length < sizeLine → (∀ ys : List V, ys.length ≤ xs.length + 1 → D.nx σ (L2.upd H b (.lst ys))) → t D σ H
section
variable {ι : Type} {X : ι → Cx} {W : WX} {M is : List Nat} {m : Mds} {kr : Kd}
theorem mut_reverse (A : Amb Γ X) (i : Nat) {x : Str} {p1 apos cpos pos : Pos} (hN : ∀ j, (X j).N[i]? = some x) (hv : ∀ j, Vis (X j).env.scope x) (T : MT0 X x p1 apos cpos pos "reverse") (hline : (apos.endLine == cpos.line) = true)
    (hd : (x == ("__debug__" : Str)) = false := by decide) (hcd : (x == ("__classdict__" : Str)) = false := by decide) : MutS X (.Expr (.Call (.Attribute (.Name x p1) "reverse" apos) [] [] cpos) pos) i := by
  refine ⟨fun D σ H => tVar i σ H fun x H1 => tyV Γ.K "list" x H1 ∧ rReverse x [] H1 fun _ H3 => D.nx σ H3, fun j => ?_, fun D σ H b xs h1 h2 _ fin => ?_⟩
  · have := ps_expr (pos := pos) (pe_bm0 PySem.F.plainAttrs_list PySem.F.slot_list_reverse PySem.F.type_list_reverse mt_reverse (pe_var (hN j) (hv j) hd hcd) (T.hbase j) hline) (T.hs j)
    rw [A.K j] at this
    exact this
  · exact ⟨_, h1, .inl ⟨rfl, _, SqL.of h2⟩, b, xs, rfl, rfl, h2, fin _ (by rw [List.length_reverse]; omega)⟩
theorem mut_clear (A : Amb Γ X) (i : Nat) {x : Str} {p1 apos cpos pos : Pos} (hN : ∀ j, (X j).N[i]? = some x) (hv : ∀ j, Vis (X j).env.scope x) (T : MT0 X x p1 apos cpos pos "clear") (hline : (apos.endLine == cpos.line) = true)
    (hd : (x == ("__debug__" : Str)) = false := by decide) (hcd : (x == ("__classdict__" : Str)) = false := by decide) : MutS X (.Expr (.Call (.Attribute (.Name x p1) "clear" apos) [] [] cpos) pos) i := by
  refine ⟨fun D σ H => tVar i σ H fun x H1 => tyV Γ.K "list" x H1 ∧ rClear x [] H1 fun _ H3 => D.nx σ H3, fun j => ?_, fun D σ H b xs h1 h2 _ fin => ?_⟩
  · have := ps_expr (pos := pos) (pe_bm0 PySem.F.plainAttrs_list PySem.F.slot_list_clear PySem.F.type_list_clear mt_clear (pe_var (hN j) (hv j) hd hcd) (T.hbase j) hline) (T.hs j)
    rw [A.K j] at this
    exact this
  · exact ⟨_, h1, .inl ⟨rfl, _, SqL.of h2⟩, b, xs, rfl, rfl, h2, fin _ (by simp)⟩
theorem mut_app (A : Amb Γ X) (i : Nat) {x : Str} {p1 apos cpos pos : Pos} {e : Expr} {v : V} (hN : ∀ j, (X j).N[i]? = some x) (hv : ∀ j, Vis (X j).env.scope x) (he : ∀ j, PE (X j) e (tC v)) (T : MTx X x p1 apos cpos pos "append" e)
    (hd : (x == ("__debug__" : Str)) = false := by decide) (hcd : (x == ("__classdict__" : Str)) = false := by decide) : MutS X (.Expr (.Call (.Attribute (.Name x p1) "append" apos) [e] [] cpos) pos) i := by
  refine ⟨fun D σ H => tVar i σ H fun x H1 => tyV Γ.K "list" x H1 ∧ tCons (tC v) tNil σ H1 fun xs H2 => rAppend x xs H2 fun _ H3 => D.nx σ H3, fun j => ?_, fun D σ H b xs h1 h2 hl fin => ?_⟩
  · have := ps_expr (pos := pos) (pe_bm PySem.F.plainAttrs_list PySem.F.slot_list_append PySem.F.type_list_append mt_append (pe_var (hN j) (hv j) hd hcd) (pa_one (he j) (T.he j)) (T.hbase j) (T.hfew j) T.hline (T.he j) (T.hpl j)) (T.hs j)
    rw [A.K j] at this
    exact this
  · exact ⟨_, h1, .inl ⟨rfl, _, SqL.of h2⟩, b, xs, v, rfl, rfl, h2, hl, fin _ (by simp)⟩
theorem mut_appI (A : Amb Γ X) (i : Nat) {x : Str} {p1 apos cpos pos p3 : Pos} {k : Int} {j0 : Nat} (hN : ∀ j, (X j).N[i]? = some x) (hv : ∀ j, Vis (X j).env.scope x) (T : MTx X x p1 apos cpos pos "append" (.Constant (.int k) j0 p3))
    (hd : (x == ("__debug__" : Str)) = false := by decide) (hcd : (x == ("__classdict__" : Str)) = false := by decide) : MutS X (.Expr (.Call (.Attribute (.Name x p1) "append" apos) [.Constant (.int k) j0 p3] [] cpos) pos) i := mut_app A i hN hv (fun _ => pe_int) T hd hcd
theorem mut_appN (A : Amb Γ X) (i : Nat) {x : Str} {p1 apos cpos pos p3 : Pos} {j0 : Nat} (hN : ∀ j, (X j).N[i]? = some x) (hv : ∀ j, Vis (X j).env.scope x) (T : MTx X x p1 apos cpos pos "append" (.Constant .none j0 p3))
    (hd : (x == ("__debug__" : Str)) = false := by decide) (hcd : (x == ("__classdict__" : Str)) = false := by decide) : MutS X (.Expr (.Call (.Attribute (.Name x p1) "append" apos) [.Constant .none j0 p3] [] cpos) pos) i := mut_app A i hN hv (fun _ => pe_non) T hd hcd
theorem okE_inv {d : D} (h : okE d = true) : ∃ es, d = .lst es ∧ es.all (nl 6) = true ∧ es.length ≤ 1000000 := by
  unfold okE at h
  split at h
  · rw [Bool.and_eq_true] at h
    exact ⟨_, rfl, h.1, of_decide_eq_true h.2⟩
  · cases h
theorem nl_nolst {F : Hp} {b : Addr} {xs : List V} {d : D} {n : Nat} (r : Rep Γ F (.ref b) d) (e : F b = some (.lst xs)) (h : nl n d = true) : False := by
  cases n with
  | zero => cases h
  | succ n =>
    cases r with
    | tup hk _ =>
      rcases hk with ⟨_, z⟩ | ⟨_, _, _, z⟩
      · rw [e] at z; cases z
      · rw [e] at z; cases z
    | obj z _ _ _ => rw [e] at z; cases z
    | ctup _ _ => cases h
    | lst _ _ => cases h
    | dK _ _ _ => cases h
    | dT _ _ _ => cases h
    | scr _ => cases h
/-- the elements of a told list: lists of objects, each with its address -/
theorem inner_at {F : Hp} {v : V} {d : D} (r : Rep Γ F v d) (h : okE d = true) : ∃ b xs es, v = .ref b ∧ F b = some (.lst xs) ∧ xs.length ≤ 1000000 ∧ RepL Γ F xs es ∧ es.all (nl 6) = true := by
  obtain ⟨es, rfl, h1, hl⟩ := okE_inv h
  cases r with
  | lst e rs => exact ⟨_, _, _, rfl, e, by rw [rs.length]; exact hl, rs, h1⟩
theorem RepL.mem {F : Hp} {p : D → Bool} : ∀ {vs : List V} {ds : List D}, RepL Γ F vs ds → ds.all p = true → ∀ v ∈ vs, ∃ d, Rep Γ F v d ∧ p d = true
  | _, _, .nil, _, v, h => by cases h
  | _, _, .cons r rs, e, v, h => by
    rw [List.all_cons, Bool.and_eq_true] at e
    rcases List.mem_cons.mp h with rfl | h
    · exact ⟨_, r, e.1⟩
    · exact RepL.mem rs e.2 v h
end
end FL
namespace FL
open PySem PySem.Spec PyProof.Rows L2
variable {Γ : Gx}
section
variable {ι : Type} {X : ι → Cx} {W : WX} {M is : List Nat} {m : Mds} {kr : Kd}
theorem fssN_tail (A : Amb Γ X) (i0 n jv : Nat) (js : List Nat) {y xf xv : Str} {py spos pos p1 p2 p3 pv : Pos} {elt tg : Expr} {sc : Scope} (own : List (Str × Nat)) {b : D → Ev0 → Res Ev0} {ge : Ev0 → Res D} {st2 st3 : Stmt} {rest : List Stmt} {g' : Ev0 → Out}
    (hpo : ∀ i, PassesOwn (model (X i).prog (X i).w) (X i).A (X i).env (X i).xe)
    (hm : M.contains i0 = false) (hst : ∀ j, js.contains j = true → M.contains j = false) (hd1 : i0 ≠ n) (hd2 : i0 ≠ jv) (hd3 : n ≠ jv)
    (hNf : ∀ j, (X j).N[i0]? = some xf) (hvf : ∀ j, Vis (X j).env.scope xf) (hdf : (xf == ("__debug__" : Str)) = false) (hcdf : (xf == ("__classdict__" : Str)) = false)
    (hy : ∀ i, (X i).N[n]? = some y) (hyl : ∀ i, (X i).env.scope.names.lookup y = some .local) (hsw : ∀ i, swapsWith (.ListComp elt [⟨tg, .Name xf p1, [], 0⟩] sc pos) (some (.Name y py)) spos.line (X i).env = pure true)
    (ok : ∀ i, BlkOk (X i).N (X i).env.scope sc own) (hg : FG Γ (Blk X sc) M is tg b) (he : FE Γ (Blk X sc) W0 M elt .ow ge) (hsub : ∀ i ∈ is, i ∈ own.map (·.2)) (hs : ∀ i x, foldedSetIterable (.Name xf p1) (X i).env x = pure x)
    (hNv : ∀ j, (X j).N[jv]? = some xv) (hxv : ∀ j, Loc (X j).env.scope xv) (hfv : ∀ j, (X j).fn xv = true ∨ (X j).env.scope.names.lookup xv = some .local) (hs2 : ∀ i x, foldedSetIterable (.Name xf p2) (X i).env x = pure x) (h2 : MutS X st2 jv) (h3 : MutS X st3 i0)
    (hr : FSs Γ X W [] m kr rest g') (hnx : ∀ ρ, (∃ d, g' ρ = .rt d) ∨ (∃ c, g' ρ = .ex c) ∨ g' ρ = .no) :
    FSsN Γ X W M m kr (.Assign [.Name y py] (.ListComp elt [⟨tg, .Name xf p1, [], 0⟩] sc pos) spos :: .For (.Name xv pv) (.Name xf p2) [st2] [] p3 :: st3 :: rest) (oDeepT i0 n jv js (own.map (·.2)) b ge g') := by
  obtain ⟨g, pg, eg⟩ := hg.ex
  obtain ⟨te, pe, ee⟩ := he.ex
  obtain ⟨t2, q2, s2⟩ := h2.ex
  obtain ⟨t3, q3, s3⟩ := h3.ex
  obtain ⟨u, qu, su⟩ := hr.ex
  have pit : ∀ (tg' : Expr) (pp : Pos) j, PI (X j) tg' (.Name xf pp) (iSeq Γ.K (tVar i0)) := fun tg' pp j => by
    have := pi_seq (tg := tg') (pe_var (pos := pp) (hNf j) (hvf j) hdf hcdf)
    rw [A.K j] at this
    exact this
  refine ⟨_, fun i => pss_cons (ps_setLc (A.calm i) (A.nd i) (hy i) (hyl i) (hsw i) (pit tg p1 i) (ok i) (fun s H C cl fp => pg ⟨i, s, H, C, cl, fp⟩) (fun s H C cl fp => pts_nil) (fun s H C cl fp => pe ⟨i, s, H, C, cl, fp⟩) (hs i)) (pss_cons (ps_for (hpo i) (A.calm i) (pit (.Name xv pv) p2 i) (pg_name (A.nd i) (hNv i) (hxv i) (hfv i)) (pss_one (q2 i)) (hs2 i)) (pss_cons (q3 i) (qu i))), fun F0 H0 F H σ ρ D hF E hp => ?_⟩
  unfold oDeepT at hp
  split at hp
  · rename_i ds hd
    split at hp
    · rename_i r hc
      by_cases hk : deepOk jv n js ds r ρ = true
      · rw [if_pos hk] at hp
        unfold deepOk at hk
        simp only [Bool.and_eq_true, decide_eq_true_eq] at hk
        obtain ⟨k1, k2, k3, k4, k5, k6, k7⟩ := hk
        have hz : sizeLine = 16777216 := rfl
        obtain ⟨v', hv0, w2⟩ := E.slot i0 _ hd
        rw [hm] at w2
        have w2 : Rep Γ F v' (.lst ds) := w2
        cases w2 with
          | @lst p vs _ e1 rr =>
            have lvs : vs.length = ds.length := rr.length
            have hHp := E.same _ _ e1
            have F0p : F0 p = none := by
              cases z : F0 p with
              | none => rfl
              | some o =>
                have := E.ext.f _ _ z
                rw [e1] at this
                cases this
                have := hF _ _ z
                cases this
            have new0 : ∀ {a : Addr} {xs : List V}, F a = some (.lst xs) → H0 a = none := fun {a xs} fb => by
              have hb := E.same _ _ fb
              rcases E.ext.n _ _ fb with ⟨w, z⟩ | z | ⟨ks, z⟩
              · have := E.ext.f _ _ z
                rw [fb] at this
                cases this
                have := hF _ _ z
                cases this
              · exact z
              · have := E.ext.h _ _ z
                rw [hb] at this
                cases this
            have h0p := new0 e1
            refine ⟨_, hv0, p, rfl, .inl ⟨⟨vs, SqL.of hHp⟩, ?_⟩⟩
            show lcT g tYes te (own.map (·.2)) σ (fun x H1 => gName n x σ H1 (tSeq (tFor (iSeq Γ.K (tVar i0)) (gName jv) t2) (tSeq t3 u) D)) (Itl Γ.K p) H
            refine lc_deep (gt := gYes) eg hsub (show EvG Γ W0 _ tYes RB gYes from fun F0 H0 F H σ ρ Q E hp => hp F H true (Ext.refl E.same) rfl) ee E (itl_R (.inl (.inl e1)) rr) hc (by omega) fun F2 H2 A0 cs e2 hA1 hA2 hA3 fr nA nd => ?_
            have X2 : Ext F0 H0 F2 H2 := E.ext.trans e2
            have F2p : F2 p = some (.lst vs) := e2.f _ _ e1
            have sF2 : Same F F2 := e2.f
            -- what stays frozen
            have G0p : strip F2 p = none := strip_rl F2p rfl
            have keepG : ∀ a o, F2 a = some o → (∀ xs, o ≠ .lst xs) → strip F2 a = some o := fun a o h hn => strip_of h (norl hn)
            have x0 : Ext F0 H0 (strip F2) H2 := ⟨fun a o h => strip_of (X2.f _ _ h) (hF _ _ h), X2.h, fun a o h => X2.i _ _ (strip_some h).1, fun a o h => X2.n _ _ (strip_some h).1⟩
            generalize hG0 : strip F2 = G0 at *
            obtain ⟨G1, sg1, x1, o1, rr1⟩ := fr.freeze E.ext.h k2 nd x0 keepG fun c hc' => by
              rw [← hG0]
              exact strip_none (fr.at c hc').2.1
            have nAp : A0 ≠ p := fun z => by subst z; rw [F2p] at hA2; cases hA2
            have G1A : G1 A0 = none := by rw [o1 A0 nA, ← hG0]; exact strip_none hA2
            have H0A : H0 A0 = none := E.ext.h.free hA1
            have x2 : Ext F0 H0 (L2.upd G1 A0 (.lst (cs.map V.ref))) H2 := x1.freeze H0A G1A hA3
            have s12 : Same G1 (L2.upd G1 A0 (.lst (cs.map V.ref))) := same_new G1A
            have rK : Rep Γ (L2.upd G1 A0 (.lst (cs.map V.ref))) (.ref A0) (.lst r) := .lst upd_same (rr1.mono s12)
            have off : ∀ {a : Addr} {o : HO}, F2 a = some o → G0 a = none → L2.upd G1 A0 (.lst (cs.map V.ref)) a = none := fun {a o} h h' => by
              have n1 : a ≠ A0 := fun z => by subst z; rw [hA2] at h; cases h
              have n2 : a ∉ cs := fun z => by
                have := (fr.at a z).2.1
                rw [h] at this
                cases this
              rw [upd_ne n1, o1 a n2]
              exact h'
            have G2p := off F2p G0p
            generalize hG2 : L2.upd G1 A0 (.lst (cs.map V.ref)) = G2 at *
            have s02 : Same G0 G2 := sg1.trans s12
            have inner : ∀ v ∈ vs, ∃ b xs, v = V.ref b ∧ H2 b = some (.lst xs) ∧ xs.length ≤ 1000001 + 0 ∧ H0 b = none ∧ G2 b = none ∧ b ≠ p := fun v hv => by
              obtain ⟨d, rd, okd⟩ := rr.mem k1 v hv
              obtain ⟨b, xs, es, rfl, fb, ln, rx, nx⟩ := inner_at rd okd
              have hb := E.same _ _ fb
              have bp : b ≠ p := fun z => by
                subst z
                rw [e1] at fb
                cases fb
                obtain ⟨d', rd', nd'⟩ := rx.mem nx _ hv
                exact nl_nolst rd' e1 nd'
              exact ⟨b, xs, rfl, e2.h _ _ hb, by omega, new0 fb, off (sF2 _ _ fb) (by rw [← hG0]; exact strip_rl (sF2 _ _ fb) rfl), bp⟩
            -- the slots
            have ES : EO Γ F0 H0 G2 H2 [] σ (keepE js 0 ρ) := by
              refine ⟨by rw [keepE_len]; exact E.len, x2, fun i d h => ?_, fun i j p d e _ h => by cases h⟩
              obtain ⟨h1, h2⟩ := keepE_at h
              rw [Nat.zero_add] at h1
              obtain ⟨v, g1, g2⟩ := E.slot i d h2
              rw [hst i h1] at g2
              have nk : nl 7 d = true := List.all_eq_true.mp k3 (some d) (List.mem_of_getElem? h)
              exact ⟨v, g1, Rep.keep (fun a o z hn => s02 _ _ (keepG a o (sF2 _ _ z) hn)) 7 v d g2 nk⟩
            have ES2 := ES.set n rK
            have ES3 : EO Γ F0 H0 G2 H2 [] (σ.set n (some (.ref A0))) (((keepE js 0 ρ).set n (some (.lst r))).set jv none) := by
              refine EO.less ES2 (by rw [List.length_set, List.length_set, List.length_set, keepE_len]; exact E.len) fun i d h => ⟨?_, rfl⟩
              by_cases hj : jv = i
              · subst hj
                rw [List.getElem?_set] at h
                simp at h
              · rw [List.getElem?_set_ne hj] at h
                exact h
            have lσ : σ.length = ρ.length := E.len
            have hv1 : (σ.set n (some (.ref A0)))[i0]? = some (some (.ref p)) := by rw [List.getElem?_set_ne (Ne.symm hd1)]; exact hv0
            have H2p := e2.h _ _ hHp
            generalize hρ3 : ((keepE js 0 ρ).set n (some (FL.D.lst r))).set jv none = ρ3 at *
            have ρ33 : ρ3.set jv none = ρ3 := by rw [← hρ3, List.set_set]
            have hpost : PostS Γ W G2 F0 H0 D m kr (g' ρ3) := by
              rcases hnx ρ3 with ⟨d, z⟩ | ⟨c, z⟩ | z
              · rw [z] at hp ⊢; exact hp
              · rw [z] at hp ⊢; exact hp
              · rw [z] at hp; exact hp.elim
            -- the loop
            refine ⟨_, hv1, p, rfl, .inl ⟨⟨vs, SqL.of H2p⟩, ?_⟩⟩
            refine ⟨fun i nn σ' H' => nn = vs.length - i ∧ i ≤ vs.length ∧ σ'[i0]? = some (some (.ref p)) ∧ σ'.length = σ.length ∧ EO Γ F0 H0 G2 H' [] σ' ρ3 ∧ H' p = some (.lst vs) ∧ ∀ v ∈ vs, ∃ b xs, v = V.ref b ∧ H' b = some (.lst xs) ∧ xs.length ≤ 1000001 + i ∧ H0 b = none ∧ G2 b = none ∧ b ≠ p, ⟨vs.length, by simp, Nat.zero_le _, hv1, by rw [List.length_set], ES3, H2p, inner⟩, ?_⟩
            rintro i nn σ' H' ⟨rfl, hil, hi0, hlen, E', hq, inn⟩
            by_cases hlt : i < vs.length
            · refine .inr ?_
              have hvi : vs[i]? = some vs[i] := List.getElem?_eq_getElem hlt
              refine ⟨⟨vs, vs[i], SqL.of hq, hvi⟩, fun σ2 H3 => i + 1 ≤ vs.length ∧ σ2[i0]? = some (some (.ref p)) ∧ σ2.length = σ.length ∧ EO Γ F0 H0 G2 H3 [] σ2 ρ3 ∧ H3 p = some (.lst vs) ∧ ∀ v ∈ vs, ∃ b xs, v = V.ref b ∧ H3 b = some (.lst xs) ∧ xs.length ≤ 1000001 + (i + 1) ∧ H0 b = none ∧ G2 b = none ∧ b ≠ p, fun σ2 H3 h => ⟨vs.length - (i + 1), by omega, rfl, h⟩, fun y' H3 hy' => ?_⟩
              obtain ⟨eH, hy'⟩ := hy'
              subst eH
              have ey := hy' vs (SqL.of hq)
              rw [hvi] at ey
              cases ey
              obtain ⟨b, xs, hb, hbH, hbl, hb0, hbG, hbp⟩ := inn vs[i] (List.getElem_mem hlt)
              show t2 _ (σ'.set jv (some vs[i])) H3
              rw [hb]
              refine s2 _ _ _ b xs (List.getElem?_set_self (by omega)) hbH (by omega) fun ys hys => ?_
              have E4 := E'.wipe1 jv (some (.ref b))
              rw [ρ33] at E4
              refine ⟨hlt, by rw [List.getElem?_set_ne (Ne.symm hd2)]; exact hi0, by rw [List.length_set]; exact hlen, E4.upd0 hb0 hbG, by rw [upd_ne (Ne.symm hbp)]; exact hq, fun v hv => ?_⟩
              obtain ⟨b', xs', rfl, c1, c2, c3, c4, c5⟩ := inn v hv
              by_cases hbb : b' = b
              · subst hbb
                rw [hbH] at c1
                cases c1
                exact ⟨b', ys, rfl, upd_same, by omega, c3, c4, c5⟩
              · exact ⟨b', xs', rfl, by rw [upd_ne hbb]; exact c1, by omega, c3, c4, c5⟩
            · refine .inl ⟨⟨vs, SqL.of hq, by omega⟩, ?_⟩
              show t3 _ σ' H'
              refine s3 _ _ _ p vs hi0 hq (by omega) fun ys _ => ?_
              exact su F0 H0 G2 _ σ' ρ3 D (E'.upd0 h0p G2p) hpost
      · rw [if_neg hk] at hp
        exact hp.elim
    · exact hp.elim
  · exact hp.elim
theorem oRet_end (ge : Ev0 → Res D) (ρ : Ev0) : (∃ d, oRet ge ρ = .rt d) ∨ (∃ c, oRet ge ρ = .ex c) ∨ oRet ge ρ = .no := by
  unfold oRet
  cases ge ρ with
  | ok a => exact .inl ⟨a, rfl⟩
  | ex c => exact .inr (.inl ⟨c, rfl⟩)
  | no => exact .inr (.inr rfl)
end
@[simp] theorem keepE_nil (js : List Nat) (k : Nat) : keepE js k [] = [] := (rfl)
@[simp] theorem keepE_cons (js : List Nat) (k : Nat) (d : Option D) (ρ : Ev0) : keepE js k (d :: ρ) = (if js.contains k = true then d else none) :: keepE js (k + 1) ρ := (rfl)
@[simp] theorem nlK_none : nlK none = true := (rfl)
theorem oDeepT_rt {i0 n jv : Nat} {js vs : List Nat} {b : D → Ev0 → Res Ev0} {ge : Ev0 → Res D} {g' : Ev0 → Out} {ρ : Ev0} {ds r : List D} {o : Out} (h1 : ρ[i0]? = some (some (.lst ds))) (h2 : compO vs b gYes ge ρ ds = .ok r) (h3 : deepOk jv n js ds r ρ = true) (h4 : g' (((keepE js 0 ρ).set n (some (.lst r))).set jv none) = o) : oDeepT i0 n jv js vs b ge g' ρ = o := by
  unfold oDeepT
  rw [h1]
  dsimp only
  rw [h2]
  dsimp only
  rw [if_pos h3, h4]
end FL
namespace FL
open PySem PySem.Spec PyProof.Rows L2
variable {Γ : Gx}
/-! ### data compared: a <= b, a < b -/
def cmpOk (a b : D) : Bool := (py a).isSome && ((py b).isSome && (PySem.W.alike (pyg a) (pyg b) && (decide ((pyg a).depth ≤ 60) && match pyg a with | .none => false | _ => true)))
def leTD (a b : D) : Res D := if cmpOk a b = true then .ok (.bl (ordD a b)) else .no
def ltTD (a b : D) : Res D := if cmpOk a b = true then .ok (.bl (!ordD b a)) else .no
def rLeG (Γ : Gx) : R2 := fun x y H Q => ∃ a b, Rep Γ H x a ∧ Rep Γ H y b ∧ cmpOk a b = true ∧ Q (.bl (ordD a b)) H
def rLtG (Γ : Gx) : R2 := fun x y H Q => ∃ a b, Rep Γ H x a ∧ Rep Γ H y b ∧ cmpOk a b = true ∧ Q (.bl (!ordD b a)) H
theorem rep_reads {Y : Cx} {pins : List (Addr × Obj)} {σ : L2.St} {H : Hp} {s : Shared} (hK : Y.K = Γ.K) (I : Inv Y pins σ H s) {x : V} {d : D} {v : Value} (h : Rep Γ H x d) (q : RelV x v) (hs : (py d).isSome = true) : ∃ as, Reads s.heap v (pyg d) as := by
  cases e : py d with
  | none => rw [e] at hs; cases hs
  | some pd =>
    have h1 := py_rep h e
    rw [← hK] at h1
    obtain ⟨as, ra⟩ := Dp.reads I pd _ _ h1 q
    refine ⟨as, ?_⟩
    show Reads s.heap _ ((py d).getD .none) as
    rw [e]
    exact ra
theorem cmpOk_inv {a b : D} (h : cmpOk a b = true) : (py a).isSome = true ∧ (py b).isSome = true ∧ PySem.W.alike (pyg a) (pyg b) = true ∧ (pyg a).depth ≤ 60 ∧ pyg a ≠ .none := by
  unfold cmpOk at h
  simp only [Bool.and_eq_true, decide_eq_true_eq] at h
  obtain ⟨h1, h2, h3, h4, h5⟩ := h
  exact ⟨h1, h2, h3, h4, fun z => by rw [z] at h5; cases h5⟩
theorem op_leG {Y : Cx} (hK : Y.K = Γ.K) (hu : Y.A.units + 64 < cLine) : OpR Y (compareOp .LtE) (rLeG Γ) := by
  intro pins s σ H x y v u Q I rx ry h
  obtain ⟨a, b, ha, hb, ok, q⟩ := h
  obtain ⟨o1, o2, o3, o4, o5⟩ := cmpOk_inv ok
  obtain ⟨as, ra⟩ := rep_reads hK I ha rx o1
  obtain ⟨bs, rb⟩ := rep_reads hK I hb ry o2
  exact PySem.W.le_data ra rb o3 o5 (by omega) ⟨.bl _, H, I, rfl, q⟩
theorem op_ltG {Y : Cx} (hK : Y.K = Γ.K) (hu : Y.A.units + 64 < cLine) : OpR Y (compareOp .Lt) (rLtG Γ) := by
  intro pins s σ H x y v u Q I rx ry h
  obtain ⟨a, b, ha, hb, ok, q⟩ := h
  obtain ⟨o1, o2, o3, o4, o5⟩ := cmpOk_inv ok
  obtain ⟨as, ra⟩ := rep_reads hK I ha rx o1
  obtain ⟨bs, rb⟩ := rep_reads hK I hb ry o2
  refine PySem.W.lt_data ra rb o3 o5 (by omega) ⟨.bl _, H, I, rfl, ?_⟩
  have e : (!ordD b a) = PySem.W.dataLt (pyg a) (pyg b) := by
    show (!(!PySem.W.dataLt (pyg a) (pyg b))) = _
    rw [Bool.not_not]
  rw [← e]
  exact q
section
variable {ι : Type} {X : ι → Cx} {W : WX} {M : List Nat} {a b : Expr} {ka kb : Kd} {pos : Pos} {ga gb : Ev0 → Res D}
theorem leG_v : OpS Γ (rLeG Γ) .ob .ob .sh leTD := fun W F H σ Q x y a b s ra rb hp => by
  unfold leTD at hp
  split at hp
  · rename_i ok
    exact ⟨a, b, ra, rb, ok, hp F H _ (Ext.refl s) (.bl _)⟩
  · exact hp.elim
theorem ltG_v : OpS Γ (rLtG Γ) .ob .ob .sh ltTD := fun W F H σ Q x y a b s ra rb hp => by
  unfold ltTD at hp
  split at hp
  · rename_i ok
    exact ⟨a, b, ra, rb, ok, hp F H _ (Ext.refl s) (.bl _)⟩
  · exact hp.elim
theorem fe_leT (A : Amb Γ X) (ha : FE Γ X W M a ka ga) (hb : FE Γ X W M b kb gb) (hm : behindInMarks .LtE b = false := by with_unfolding_all rfl) : FE Γ X W M (.Compare a [.LtE] [b] pos) .sh (g2 ga gb leTD) := fe_cmp (r := fun Γ => rLeG Γ) (fun i => op_leG (A.K i) (A.un i)) leG_v ha.ob hb.ob hm
theorem ft_leT (A : Amb Γ X) (ha : FE Γ X W M a ka ga) (hb : FE Γ X W M b kb gb) (hm : behindInMarks .LtE b = false := by with_unfolding_all rfl) : FT Γ X W M (.Compare a [.LtE] [b] pos) (gT (g2 ga gb leTD)) := ft_cmp (r := fun Γ => rLeG Γ) (fun i => op_leG (A.K i) (A.un i)) leG_v ha.ob hb.ob hm
theorem fe_ltT (A : Amb Γ X) (ha : FE Γ X W M a ka ga) (hb : FE Γ X W M b kb gb) (hm : behindInMarks .Lt b = false := by with_unfolding_all rfl) : FE Γ X W M (.Compare a [.Lt] [b] pos) .sh (g2 ga gb ltTD) := fe_cmp (r := fun Γ => rLtG Γ) (fun i => op_ltG (A.K i) (A.un i)) ltG_v ha.ob hb.ob hm
theorem ft_ltT (A : Amb Γ X) (ha : FE Γ X W M a ka ga) (hb : FE Γ X W M b kb gb) (hm : behindInMarks .Lt b = false := by with_unfolding_all rfl) : FT Γ X W M (.Compare a [.Lt] [b] pos) (gT (g2 ga gb ltTD)) := ft_cmp (r := fun Γ => rLtG Γ) (fun i => op_ltG (A.K i) (A.un i)) ltG_v ha.ob hb.ob hm
end
end FL
namespace P
open PySem L2 FL
noncomputable def w_stretches_of_1 : Ev0 → Out := (oLst 1 (gTup (gCons (gVar 2) (gCons (gVar 4) (gCons (gVar 5) gNil)))) fApp)
noncomputable def w_stretches_of_2 : Ev0 → Out := (oFor (gSeq (gVar 3)) (bTup 2 (bCons (bName 4) (bCons (bName 5) bNil)))
    w_stretches_of_1)
noncomputable def g_stretches_of : List D → Res D := fnG 6 .ow (oSeq (oSet 1 (gLst gNil))
    (oSeq (oFor (gSeq (gVar 0)) (bTup 2 (bCons (bName 2) (bCons (bName 3) bNil)))
    w_stretches_of_2)
    (oRet (gVar 1))))
noncomputable def g_stretches_touch : List D → Res D := fnG 3 .sh (oSeq (oIf (gT (g2 (g1 (g2 (g2 (gVar 0) (gC (.int 0)) ixD) (g2 (gVar 1) (gC (.int 0)) ixD) subD) absD) (gC (.int 1)) (eqD true)))
    (oRet (gC (.bl false)))
    oNil)
    (oRet (gAndV (g2 (g2 (gVar 0) (gC (.int 1)) ixD) (g2 (g2 (gVar 1) (gC (.int 2)) ixD) (gVar 2) addD) leD) (g2 (g2 (gVar 1) (gC (.int 1)) ixD) (g2 (g2 (gVar 0) (gC (.int 2)) ixD) (gVar 2) addD) leD))))
noncomputable def w_grow_class_1 : Ev0 → Out := (oIf (gT (gCall g_stretches_touch (gCons (g2 (gVar 3) (gVar 4) ixD) (gCons (gVar 6) (gCons (gVar 2) gNil)))))
    (oLst 3 (gTup (gCons (g2 (gVar 6) (gC (.int 0)) ixD) (gCons (g2 (gVar 6) (gC (.int 1)) ixD) (gCons (g2 (gVar 6) (gC (.int 2)) ixD) (gCons (gVar 4) gNil))))) fApp)
    (oLst 5 (gVar 6) fApp))
noncomputable def w_grow_class_2 : Ev0 → Out := (oSeq (oSet 5 (gLst gNil))
    (oSeq (oFor (gSeq (gVar 1)) (bName 6)
    w_grow_class_1)
    (oSeq (oSet 1 (gVar 5))
    (oSet 4 (g2 (gVar 4) (gC (.int 1)) addI)))))
noncomputable def g_grow_class : List D → Res D := fnG 7 .sh (oSeq (oSet 3 (gLst (gCons (gTup (gCons (g2 (gVar 0) (gC (.int 0)) ixD) (gCons (g2 (gVar 0) (gC (.int 1)) ixD) (gCons (g2 (gVar 0) (gC (.int 2)) ixD) (gCons (gC .non) gNil))))) gNil)))
    (oSeq (oSet 4 (gC (.int 0)))
    (oSeq (oWhile (gT (g2 (gVar 4) (g1 (gVar 3) lenD) ltD))
    w_grow_class_2)
    (oRet (gTup (gCons (gVar 3) (gCons (gVar 1) gNil)))))))
noncomputable def w_classes_of_1 : Ev0 → Out := (oSeq (oAsg (gCall g_grow_class (gCons (g2 (gVar 3) (gC (.int 0)) ixD) (gCons (gSl (gVar 3) (some (gC (.int 1))) none slL) (gCons (gVar 1) gNil)))) (bTup 2 (bCons (bName 4) (bCons (bName 3) bNil))))
    (oLst 2 (gVar 4) fApp))
noncomputable def g_classes_of : List D → Res D := fnG 5 .ow (oSeq (oSet 2 (gLst gNil))
    (oSeq (oSet 3 (g1 (gVar 0) listD))
    (oSeq (oWhile (gT (g2 (g1 (gVar 3) lenD) (gC (.int 0)) gtD))
    w_classes_of_1)
    (oRet (gVar 2)))))
noncomputable def g_pieces : List D → Res D := fnG 1 .ow (oRet (gCall g_classes_of (gCons (gCall g_stretches_of (gCons (gVar 0) gNil)) (gCons (gC (.int 1)) gNil))))
noncomputable def g__law_cell_at : List D → Res D := fnG 2 .sh (oSeq (oIf (gT (g2 (gVar 1) (g1 (gVar 0) lenD) ltD))
    (oRet (g2 (gVar 0) (gVar 1) ixD))
    oNil)
    (oRet (gC (.int 0))))
noncomputable def g__law_signed : List D → Res D := fnG 2 .sh (oSeq (oIf (gT (g2 (gVar 0) (gC (.int 0)) ltD))
    (oRet (g2 (gC (.int 0)) (g2 (g2 (gC (.int 0)) (gVar 0) subD) (gVar 1) modD) subD))
    oNil)
    (oRet (g2 (gVar 0) (gVar 1) modD)))
noncomputable def w__law_row_1 : Ev0 → Out := (oSeq (oSet 5 (gC (.int 1)))
    (oSeq (oIf (gT (gVar 2))
    (oSet 5 (g2 (gLst (gCons (gC (.int 1)) (gCons (gC (.int 2)) (gCons (gC (.int 1)) (gCons (g2 (gC (.int 10)) (gC (.int 40)) powD) (gCons (gC (.int 1)) (gCons (gC (.int 1)) (gCons (gC (.int 3)) (gCons (gC (.int 2)) gNil))))))))) (gVar 4) ixD))
    oNil)
    (oSeq (oIf (gT (g2 (g2 (gVar 0) (gC (.int 2)) modD) (gC (.int 1)) (eqD false)))
    (oIf (gAnd (gT (g2 (g1 (gVar 3) lenD) (gC (.int 0)) gtD)) (gT (g2 (g2 (g2 (gVar 3) (g1 (gC (.int 1)) negD) ixD) (gC (.int 1)) ixD) (g2 (gVar 1) (gC (.int 1)) subD) (eqD false))))
    (oSetIx 3 (gTup (gCons (g2 (g2 (gVar 3) (g1 (gC (.int 1)) negD) ixD) (gC (.int 0)) ixD) (gCons (g2 (g2 (gVar 1) (gVar 5) addD) (gC (.int 1)) subD) gNil))) (g1 (gC (.int 1)) negD))
    (oLst 3 (gTup (gCons (gVar 1) (gCons (g2 (g2 (gVar 1) (gVar 5) addD) (gC (.int 1)) subD) gNil))) fApp))
    oNil)
    (oSeq (oSet 0 (g2 (gVar 0) (gC (.int 2)) fdivD))
    (oSet 1 (g2 (gVar 1) (gVar 5) addD))))))
noncomputable def g__law_row : List D → Res D := fnG 6 .sh (oSeq (oSet 3 (gLst gNil))
    (oSeq (oFor (gRng1 (gC (.int 8))) (bName 4)
    w__law_row_1)
    (oRet (g1 (gVar 3) tupD))))
noncomputable def w__law_picture_1 : Ev0 → Out := (oSet 6 (g2 (gVar 6) (g2 (g2 (gC (.int 5)) (g2 (gVar 0) (gVar 7) ixD) mulD) (gC (.int 256)) modD) addD))
noncomputable def w__law_picture_2 : Ev0 → Out := (oSeq (oSet 6 (g2 (g2 (g2 (g2 (gVar 0) (g2 (gC (.int 1)) (gVar 5) addD) ixD) (gC (.int 48271)) mulD) (gC (.int 2147483647)) modD) (gC (.int 37)) fdivD))
    (oSeq (oFor (gRng3 (g2 (gC (.int 21)) (gVar 5) addD) (g2 (g1 (gVar 0) lenD) (gC (.int 99)) minD) (gC (.int 20))) (bName 7)
    w__law_picture_1)
    (oSeq (oSet 8 (gCall g__law_row (gCons (gVar 6) (gCons (gVar 2) (gCons (g2 (g2 (gVar 1) (gC (.int 3)) modD) (gC (.int 1)) (eqD false)) gNil)))))
    (oIf (gT (g2 (g1 (gVar 8) lenD) (gC (.int 0)) gtD))
    (oLst 4 (gTup (gCons (g2 (gVar 3) (gVar 5) addD) (gCons (gVar 8) gNil))) fApp)
    oNil))))
noncomputable def g__law_picture : List D → Res D := fnG 9 .sh (oSeq (oSet 1 (gCall g__law_cell_at (gCons (gVar 0) (gCons (gC (.int 0)) gNil))))
    (oSeq (oSet 2 (gCall g__law_signed (gCons (g2 (gVar 1) (gC (.int 12)) fdivD) (gCons (g2 (gLst (gCons (gC (.int 9)) (gCons (g2 (gC (.int 10)) (gC (.int 58)) powD) gNil))) (g2 (g2 (gVar 1) (gC (.int 3)) fdivD) (gC (.int 2)) modD) ixD) gNil))))
    (oSeq (oSet 3 (gCall g__law_signed (gCons (g2 (gVar 1) (gC (.int 24)) fdivD) (gCons (g2 (gLst (gCons (gC (.int 9)) (gCons (g2 (gC (.int 10)) (gC (.int 58)) powD) gNil))) (g2 (g2 (gVar 1) (gC (.int 6)) fdivD) (gC (.int 2)) modD) ixD) gNil))))
    (oSeq (oSet 4 (gLst gNil))
    (oSeq (oFor (gRng1 (g2 (gC (.int 20)) (g2 (g1 (gVar 0) lenD) (gC (.int 1)) subD) minD)) (bName 5)
    w__law_picture_2)
    (oRet (g1 (gVar 4) tupD)))))))
noncomputable def w__law_stretches_1 : Ev0 → Out := (oLst 1 (gTup (gCons (gVar 2) (gCons (gVar 4) (gCons (gVar 5) gNil)))) fApp)
noncomputable def w__law_stretches_2 : Ev0 → Out := (oFor (gSeq (gVar 3)) (bTup 2 (bCons (bName 4) (bCons (bName 5) bNil)))
    w__law_stretches_1)
noncomputable def g__law_stretches : List D → Res D := fnG 6 .ow (oSeq (oSet 1 (gLst gNil))
    (oSeq (oFor (gSeq (gVar 0)) (bTup 2 (bCons (bName 2) (bCons (bName 3) bNil)))
    w__law_stretches_2)
    (oRet (gVar 1))))
noncomputable def g__law_touch : List D → Res D := fnG 2 .sh (oSeq (oIf (gAnd (gT (g2 (g2 (gVar 0) (gC (.int 0)) ixD) (g2 (g2 (gVar 1) (gC (.int 0)) ixD) (gC (.int 1)) addD) (eqD true))) (gT (g2 (g2 (gVar 1) (gC (.int 0)) ixD) (g2 (g2 (gVar 0) (gC (.int 0)) ixD) (gC (.int 1)) addD) (eqD true))))
    (oRet (gC (.bl false)))
    oNil)
    (oRet (gAndV (g2 (g2 (gVar 0) (gC (.int 1)) ixD) (g2 (g2 (gVar 1) (gC (.int 2)) ixD) (gC (.int 1)) addD) leD) (g2 (g2 (gVar 1) (gC (.int 1)) ixD) (g2 (g2 (gVar 0) (gC (.int 2)) ixD) (gC (.int 1)) addD) leD))))
noncomputable def g__law_whole : List D → Res D := fnG 1 .sh (oRet (gAndV (g1 (gVar 0) (isiG "int")) (gNotV (g1 (gVar 0) (isiG "bool")))))
noncomputable def g__law_kinds : List D → Res D := fnG 1 .sh (oSeq (oIf (gOr (gNot (gT (g1 (gVar 0) (isiG "tuple")))) (gT (g2 (g1 (gVar 0) lenD) (gC (.int 4)) (eqD true))))
    (oRet (gC (.bl false)))
    oNil)
    (oRet (gAndV (gCall g__law_whole (gCons (g2 (gVar 0) (gC (.int 0)) ixD) gNil)) (gAndV (gCall g__law_whole (gCons (g2 (gVar 0) (gC (.int 1)) ixD) gNil)) (gCall g__law_whole (gCons (g2 (gVar 0) (gC (.int 2)) ixD) gNil))))))
noncomputable def w__law_walked_1 : Ev0 → Out := (oIf (gT (gCall g__law_touch (gCons (g2 (gVar 0) (gVar 1) ixD) (gCons (g2 (gVar 0) (gVar 3) ixD) gNil))))
    (oRet (gC (.bl false)))
    oNil)
noncomputable def w__law_walked_2 : Ev0 → Out := (oSeq (oIf (gOr (gNot (gT (gCall g__law_kinds (gCons (g2 (gVar 0) (gVar 1) ixD) gNil)))) (gOr (gNot (gT (gCall g__law_whole (gCons (g2 (g2 (gVar 0) (gVar 1) ixD) (gC (.int 3)) ixD) gNil)))) (gOr (gT (g2 (g2 (g2 (gVar 0) (gVar 1) ixD) (gC (.int 3)) ixD) (gC (.int 0)) ltD)) (gT (g2 (g2 (g2 (gVar 0) (gVar 1) ixD) (gC (.int 3)) ixD) (gVar 1) geD)))))
    (oRet (gC (.bl false)))
    oNil)
    (oSeq (oSet 2 (g2 (g2 (gVar 0) (gVar 1) ixD) (gC (.int 3)) ixD))
    (oSeq (oIf (gNot (gT (gCall g__law_touch (gCons (g2 (gVar 0) (gVar 1) ixD) (gCons (g2 (gVar 0) (gVar 2) ixD) gNil)))))
    (oRet (gC (.bl false)))
    oNil)
    (oSeq (oFor (gRng1 (gVar 2)) (bName 3)
    w__law_walked_1)
    (oSeq (oSet 4 (g2 (gVar 0) (g2 (gVar 1) (gC (.int 1)) subD) ixD))
    (oSeq (oIf (gAnd (gT (g2 (gVar 1) (gC (.int 1)) gtD)) (gT (g2 (gVar 2) (g2 (gVar 4) (gC (.int 3)) ixD) ltD)))
    (oRet (gC (.bl false)))
    oNil)
    (oIf (gAnd (gT (g2 (gVar 1) (gC (.int 1)) gtD)) (gAnd (gT (g2 (gVar 2) (g2 (gVar 4) (gC (.int 3)) ixD) (eqD false))) (gT (g2 (gSl (g2 (gVar 0) (gVar 1) ixD) none (some (gC (.int 3))) slT) (gSl (gVar 4) none (some (gC (.int 3))) slT) leTD))))
    (oRet (gC (.bl false)))
    oNil)))))))
noncomputable def g__law_walked : List D → Res D := fnG 5 .sh (oSeq (oIf (gOr (gNot (gT (g1 (gVar 0) (isiG "list")))) (gOr (gT (g2 (g1 (gVar 0) lenD) (gC (.int 0)) (eqD false))) (gOr (gNot (gT (gCall g__law_kinds (gCons (g2 (gVar 0) (gC (.int 0)) ixD) gNil)))) (gT (g2 (g2 (g2 (gVar 0) (gC (.int 0)) ixD) (gC (.int 3)) ixD) (gC .non) (isN true))))))
    (oRet (gC (.bl false)))
    oNil)
    (oSeq (oFor (gRng2 (gC (.int 1)) (g1 (gVar 0) lenD)) (bName 1)
    w__law_walked_2)
    (oRet (gC (.bl true)))))
noncomputable def w_law_1 : Ev0 → Out := (oSeq (oIf (gNot (gT (gCall g__law_walked (gCons (gVar 4) gNil))))
    (oRet (gC (.bl false)))
    oNil)
    (oSet 3 (g2 (gVar 3) (gComp [5] (gSeq (gVar 4)) (bName 5) gYes (gSl (gVar 5) none (some (gC (.int 3))) slT)) catD)))
noncomputable def r_law_6 : Ev0 → Out := (oDeepT 2 6 4 [1] [4] (bName 4) (g1 (gVar 4) listD) (oRet (g2 (gCall g_pieces (gCons (gVar 1) gNil)) (gVar 6) (eqD false))))
noncomputable def r_law_5 : Ev0 → Out := (oSeq (oIf (gT (g2 (g1 (gVar 3) sortD) (gCall g__law_stretches (gCons (gVar 1) gNil)) (eqD true)))
    (oRet (gC (.bl false)))
    oNil)
    r_law_6)
noncomputable def r_law_4 : Ev0 → Out := (oSeq (oFor (gSeq (gVar 2)) (bName 4)
    w_law_1)
    r_law_5)
noncomputable def r_law_3 : Ev0 → Out := (oSeq (oSet 3 (gLst gNil))
    r_law_4)
noncomputable def r_law_2 : Ev0 → Out := (oSeq (oIf (gNot (gT (g1 (gVar 2) (isiG "list"))))
    (oRet (gC (.bl false)))
    oNil)
    r_law_3)
noncomputable def r_law_1 : Ev0 → Out := (oThaw [1] (oSeq (oSet 2 (gCall g_pieces (gCons (gVar 1) gNil)))
    r_law_2))
noncomputable def g_law : List D → Res D := fnG 7 .sh (oSeq (oSet 1 (gCall g__law_picture (gCons (gVar 0) gNil)))
    r_law_1)
end P
namespace P
open PySem PySem.Spec PyProof.Rows L2 FL
def topS (i : Nat) : Stmt := PySem.Challenge.pw_shapethin_k41_pieces_walked.main.body.getD i (.Pass ⟨0, 0, 0, 0⟩)
abbrev s_stretches_of : Stmt := topS 1
abbrev s_stretches_touch : Stmt := topS 3
abbrev s_grow_class : Stmt := topS 4
abbrev s_classes_of : Stmt := topS 5
abbrev s_pieces : Stmt := topS 6
abbrev s__law_cell_at : Stmt := topS 8
abbrev s__law_signed : Stmt := topS 9
abbrev s__law_row : Stmt := topS 10
abbrev s__law_picture : Stmt := topS 11
abbrev s__law_stretches : Stmt := topS 12
abbrev s__law_touch : Stmt := topS 13
abbrev s__law_whole : Stmt := topS 14
abbrev s__law_kinds : Stmt := topS 15
abbrev s__law_walked : Stmt := topS 16
abbrev s_law : Stmt := topS 17
section
variable {P : Program} {w : World} {K : PySem.W.Frag} {mg : Str → Option Value} {base : Heap} {ct : Str → Option Addr}
theorem sc_stretches_of : FnScope ["picture", "stretches", "y", "row", "low", "high"] ["picture"] (defScope s_stretches_of) := ⟨rfl, rfl, rfl, by decide +kernel, rfl, by decide +kernel, by decide +kernel⟩
theorem d_stretches_of (F : DefAt K mg "stretches_of" "stretches_of" s_stretches_of ["picture"]) : Def P w K mg base ct 1 "stretches_of" 1 .ow g_stretches_of := by
  refine mkDef (kr := .ow) (M' := []) F sc_stretches_of fun f cdv A outer s H E hr A0 => ?_
  have tk := fun _ : Unit => takes_of (X := cxOf (L2.CX P w) P w K mg base ["picture", "stretches", "y", "row", "low", "high"] "stretches_of" (defScope s_stretches_of) f cdv A outer s H E) rfl rfl rfl rfl
  have hpo := fun _ : Unit => passes_of (X := cxOf (L2.CX P w) P w K mg base ["picture", "stretches", "y", "row", "low", "high"] "stretches_of" (defScope s_stretches_of) f cdv A outer s H E) rfl
  exact (fss_cons (M1 := [1]) (fs_setON A0 1 rfl (fun _ => rfl) (fun _ => .inl rfl) (fe_lst fa_nil) (fun _ => rfl) (fun _ => .inl rfl))
    (fss_cons (M1 := [1]) (fs_for A0 hpo (fi_seq A0 (fe_var 0 (fun _ => rfl) (fun _ => .inl rfl) rfl)) (fg_tup A0 (fgs_cons (fg_name A0 2 (fun _ => rfl) (fun _ => .inl rfl) rfl (fun _ => .inl rfl)) (fgs_cons (fg_name A0 3 (fun _ => rfl) (fun _ => .inl rfl) rfl (fun _ => .inl rfl)) fgs_nil (fun _ => rfl)) (fun _ => rfl)) (fun _ => rfl) (fun _ => rfl))
    (fss_one (fs_for A0 hpo (fi_seq A0 (fe_var 3 (fun _ => rfl) (fun _ => .inl rfl) rfl)) (fg_tup A0 (fgs_cons (fg_name A0 4 (fun _ => rfl) (fun _ => .inl rfl) rfl (fun _ => .inl rfl)) (fgs_cons (fg_name A0 5 (fun _ => rfl) (fun _ => .inl rfl) rfl (fun _ => .inl rfl)) fgs_nil (fun _ => rfl)) (fun _ => rfl)) (fun _ => rfl) (fun _ => rfl))
    (fss_one (fs_append A0 1 (fun _ => rfl) (fun _ => .inl rfl) rfl (fe_tup (fa_cons (fe_var 2 (fun _ => rfl) (fun _ => .inl rfl) rfl) (fa_cons (fe_var 4 (fun _ => rfl) (fun _ => .inl rfl) rfl) (fa_cons (fe_var 5 (fun _ => rfl) (fun _ => .inl rfl) rfl) fa_nil (fun _ => rfl)) (fun _ => rfl)) (fun _ => rfl))) ⟨fun _ => rfl, fun _ => rfl, rfl, fun _ => rfl, fun _ => rfl, fun _ => rfl⟩)) (fun _ _ => rfl))) (fun _ _ => rfl))
    (fss_one (fs_retO 1 (fun _ => rfl) (fun _ => .inl rfl) rfl))))
theorem sc_stretches_touch : FnScope ["one", "other", "slack"] ["one", "other", "slack"] (defScope s_stretches_touch) := ⟨rfl, rfl, rfl, by decide +kernel, rfl, by decide +kernel, by decide +kernel⟩
theorem d_stretches_touch (F : DefAt K mg "stretches_touch" "stretches_touch" s_stretches_touch ["one", "other", "slack"]) (m_abs : mg "abs" = none) : Def P w K mg base ct 1 "stretches_touch" 3 .sh g_stretches_touch := by
  refine mkDef (kr := .sh) (M' := []) F sc_stretches_touch fun f cdv A outer s H E hr A0 => ?_
  have tk := fun _ : Unit => takes_of (X := cxOf (L2.CX P w) P w K mg base ["one", "other", "slack"] "stretches_touch" (defScope s_stretches_touch) f cdv A outer s H E) rfl rfl rfl rfl
  have hpo := fun _ : Unit => passes_of (X := cxOf (L2.CX P w) P w K mg base ["one", "other", "slack"] "stretches_touch" (defScope s_stretches_touch) f cdv A outer s H E) rfl
  exact (fss_cons (M1 := []) (fs_if (ft_ne A0 (fe_abs ⟨fun _ => rfl, fun _ => m_abs, fun _ => rfl, fun _ => rfl⟩ (fe_sub (fe_ix A0 (fe_var 0 (fun _ => rfl) (fun _ => .inl rfl) rfl) fe_int (fun _ _ => rfl)) (fe_ix A0 (fe_var 1 (fun _ => rfl) (fun _ => .inl rfl) rfl) fe_int (fun _ _ => rfl)))) fe_int)
    (fss_one (fs_ret fe_bl))
    fss_nil)
    (fss_one (fs_ret (fe_and (fe_le (fe_ix A0 (fe_var 0 (fun _ => rfl) (fun _ => .inl rfl) rfl) fe_int (fun _ _ => rfl)) (fe_add A0 (fe_ix A0 (fe_var 1 (fun _ => rfl) (fun _ => .inl rfl) rfl) fe_int (fun _ _ => rfl)) (fe_var 2 (fun _ => rfl) (fun _ => .inl rfl) rfl))) (fe_one (fe_le (fe_ix A0 (fe_var 1 (fun _ => rfl) (fun _ => .inl rfl) rfl) fe_int (fun _ _ => rfl)) (fe_add A0 (fe_ix A0 (fe_var 0 (fun _ => rfl) (fun _ => .inl rfl) rfl) fe_int (fun _ _ => rfl)) (fe_var 2 (fun _ => rfl) (fun _ => .inl rfl) rfl))))))))
theorem sc_grow_class : FnScope ["first", "left", "slack", "members", "place", "apart", "other"] ["first", "left", "slack"] (defScope s_grow_class) := ⟨rfl, rfl, rfl, by decide +kernel, rfl, by decide +kernel, by decide +kernel⟩
theorem d_grow_class (F : DefAt K mg "grow_class" "grow_class" s_grow_class ["first", "left", "slack"]) (m_len : mg "len" = none) (D_stretches_touch : Def P w K mg base ct 1 "stretches_touch" 3 .sh g_stretches_touch) : Def P w K mg base ct 2 "grow_class" 3 .sh g_grow_class := by
  refine mkDef (kr := .sh) (M' := []) F sc_grow_class fun f cdv A outer s H E hr A0 => ?_
  have tk := fun _ : Unit => takes_of (X := cxOf (L2.CX P w) P w K mg base ["first", "left", "slack", "members", "place", "apart", "other"] "grow_class" (defScope s_grow_class) f cdv A outer s H E) rfl rfl rfl rfl
  have hpo := fun _ : Unit => passes_of (X := cxOf (L2.CX P w) P w K mg base ["first", "left", "slack", "members", "place", "apart", "other"] "grow_class" (defScope s_grow_class) f cdv A outer s H E) rfl
  exact (fss_cons (M1 := [3]) (fs_setON A0 3 rfl (fun _ => rfl) (fun _ => .inl rfl) (fe_lst (fa_cons (fe_tup (fa_cons (fe_ix A0 (fe_var 0 (fun _ => rfl) (fun _ => .inl rfl) rfl) fe_int (fun _ _ => rfl)) (fa_cons (fe_ix A0 (fe_var 0 (fun _ => rfl) (fun _ => .inl rfl) rfl) fe_int (fun _ _ => rfl)) (fa_cons (fe_ix A0 (fe_var 0 (fun _ => rfl) (fun _ => .inl rfl) rfl) fe_int (fun _ _ => rfl)) (fa_cons fe_non fa_nil (fun _ => rfl)) (fun _ => rfl)) (fun _ => rfl)) (fun _ => rfl))) fa_nil (fun _ => rfl))) (fun _ => rfl) (fun _ => .inl rfl))
    (fss_cons (M1 := [3]) (fs_setN A0 4 rfl (fun _ => rfl) (fun _ => .inl rfl) fe_int (fun _ => rfl) (fun _ => .inl rfl))
    (fss_cons (M1 := [3]) (fs_while A0 hpo (ft_lt (fe_var 4 (fun _ => rfl) (fun _ => .inl rfl) rfl) (fe_len A0 ⟨fun _ => rfl, fun _ => m_len, fun _ => rfl, fun _ => rfl⟩ (fe_varO 3 (fun _ => rfl) (fun _ => .inl rfl))))
    (fss_cons (M1 := [5, 3]) (fs_setON A0 5 rfl (fun _ => rfl) (fun _ => .inl rfl) (fe_lst fa_nil) (fun _ => rfl) (fun _ => .inl rfl))
    (fss_cons (M1 := [5, 3]) (fs_for A0 hpo (fi_seq A0 (fe_var 1 (fun _ => rfl) (fun _ => .inl rfl) rfl)) (fg_name A0 6 (fun _ => rfl) (fun _ => .inl rfl) rfl (fun _ => .inl rfl))
    (fss_one (fs_if (ft_val (fe_callD A0 (fun _ => D_stretches_touch) (fun _ => hr.mono (by decide)) (fun _ => rfl) tk (len_cons (len_cons (len_cons len_nil))) (fa_cons (fe_ix A0 (fe_varO 3 (fun _ => rfl) (fun _ => .inl rfl)) (fe_var 4 (fun _ => rfl) (fun _ => .inl rfl) rfl) (fun _ _ => rfl)) (fa_cons (fe_var 6 (fun _ => rfl) (fun _ => .inl rfl) rfl) (fa_cons (fe_var 2 (fun _ => rfl) (fun _ => .inl rfl) rfl) fa_nil (fun _ => rfl)) (fun _ => rfl)) (fun _ => rfl)) (fun _ => rfl) (fun _ => rfl)) (fun _ _ => rfl))
    (fss_one (fs_append A0 3 (fun _ => rfl) (fun _ => .inl rfl) rfl (fe_tup (fa_cons (fe_ix A0 (fe_var 6 (fun _ => rfl) (fun _ => .inl rfl) rfl) fe_int (fun _ _ => rfl)) (fa_cons (fe_ix A0 (fe_var 6 (fun _ => rfl) (fun _ => .inl rfl) rfl) fe_int (fun _ _ => rfl)) (fa_cons (fe_ix A0 (fe_var 6 (fun _ => rfl) (fun _ => .inl rfl) rfl) fe_int (fun _ _ => rfl)) (fa_cons (fe_var 4 (fun _ => rfl) (fun _ => .inl rfl) rfl) fa_nil (fun _ => rfl)) (fun _ => rfl)) (fun _ => rfl)) (fun _ => rfl))) ⟨fun _ => rfl, fun _ => rfl, rfl, fun _ => rfl, fun _ => rfl, fun _ => rfl⟩))
    (fss_one (fs_append A0 5 (fun _ => rfl) (fun _ => .inl rfl) rfl (fe_var 6 (fun _ => rfl) (fun _ => .inl rfl) rfl) ⟨fun _ => rfl, fun _ => rfl, rfl, fun _ => rfl, fun _ => rfl, fun _ => rfl⟩)))) (fun _ _ => rfl))
    (fss_frz 5 [3] rfl (fss_cons (M1 := [3]) (fs_setN A0 1 rfl (fun _ => rfl) (fun _ => .inl rfl) (fe_var 5 (fun _ => rfl) (fun _ => .inl rfl) rfl) (fun _ => rfl) (fun _ => .inl rfl))
    (fss_one (fs_augAdd A0 4 rfl (fun _ => rfl) (fun _ => .inl rfl) fe_int (fun _ => .inl rfl))))))))
    (fss_frz 3 [] rfl (fss_one (fs_ret (fe_tup (fa_cons (fe_var 3 (fun _ => rfl) (fun _ => .inl rfl) rfl) (fa_cons (fe_var 1 (fun _ => rfl) (fun _ => .inl rfl) rfl) fa_nil (fun _ => rfl)) (fun _ => rfl)))))))))
theorem sc_classes_of : FnScope ["stretches", "slack", "found", "left", "members"] ["stretches", "slack"] (defScope s_classes_of) := ⟨rfl, rfl, rfl, by decide +kernel, rfl, by decide +kernel, by decide +kernel⟩
theorem d_classes_of (F : DefAt K mg "classes_of" "classes_of" s_classes_of ["stretches", "slack"]) (m_len : mg "len" = none) (m_list : mg "list" = none) (D_grow_class : Def P w K mg base ct 2 "grow_class" 3 .sh g_grow_class) : Def P w K mg base ct 3 "classes_of" 2 .ow g_classes_of := by
  refine mkDef (kr := .ow) (M' := []) F sc_classes_of fun f cdv A outer s H E hr A0 => ?_
  have tk := fun _ : Unit => takes_of (X := cxOf (L2.CX P w) P w K mg base ["stretches", "slack", "found", "left", "members"] "classes_of" (defScope s_classes_of) f cdv A outer s H E) rfl rfl rfl rfl
  have hpo := fun _ : Unit => passes_of (X := cxOf (L2.CX P w) P w K mg base ["stretches", "slack", "found", "left", "members"] "classes_of" (defScope s_classes_of) f cdv A outer s H E) rfl
  exact (fss_cons (M1 := [2]) (fs_setON A0 2 rfl (fun _ => rfl) (fun _ => .inl rfl) (fe_lst fa_nil) (fun _ => rfl) (fun _ => .inl rfl))
    (fss_cons (M1 := [2]) (fs_setN A0 3 rfl (fun _ => rfl) (fun _ => .inl rfl) (FE.sh (fe_list A0 ⟨fun _ => rfl, fun _ => m_list, fun _ => rfl, fun _ => rfl⟩ (fe_var 0 (fun _ => rfl) (fun _ => .inl rfl) rfl))) (fun _ => rfl) (fun _ => .inl rfl))
    (fss_cons (M1 := [2]) (fs_while A0 hpo (ft_gt (fe_len A0 ⟨fun _ => rfl, fun _ => m_len, fun _ => rfl, fun _ => rfl⟩ (fe_var 3 (fun _ => rfl) (fun _ => .inl rfl) rfl)) fe_int)
    (fss_cons (M1 := [2]) (fs_asg (fe_callD A0 (fun _ => D_grow_class) (fun _ => hr.mono (by decide)) (fun _ => rfl) tk (len_cons (len_cons (len_cons len_nil))) (fa_cons (fe_ix A0 (fe_var 3 (fun _ => rfl) (fun _ => .inl rfl) rfl) fe_int (fun _ _ => rfl)) (fa_cons (FE.sh (fe_slL A0 (fe_var 3 (fun _ => rfl) (fun _ => .inl rfl) rfl) (fo_some fe_int) fo_none)) (fa_cons (fe_var 1 (fun _ => rfl) (fun _ => .inl rfl) rfl) fa_nil (fun _ => rfl)) (fun _ => rfl)) (fun _ => rfl)) (fun _ => rfl) (fun _ => rfl)) (fg_tup A0 (fgs_cons (fg_name A0 4 (fun _ => rfl) (fun _ => .inl rfl) rfl (fun _ => .inl rfl)) (fgs_cons (fg_name A0 3 (fun _ => rfl) (fun _ => .inl rfl) rfl (fun _ => .inl rfl)) fgs_nil (fun _ => rfl)) (fun _ => rfl)) (fun _ => rfl) (fun _ => rfl)) (fun _ => rfl) (fun _ => rfl) (fun _ => rfl))
    (fss_one (fs_append A0 2 (fun _ => rfl) (fun _ => .inl rfl) rfl (fe_var 4 (fun _ => rfl) (fun _ => .inl rfl) rfl) ⟨fun _ => rfl, fun _ => rfl, rfl, fun _ => rfl, fun _ => rfl, fun _ => rfl⟩))))
    (fss_one (fs_retO 2 (fun _ => rfl) (fun _ => .inl rfl) rfl)))))
theorem sc_pieces : FnScope ["picture"] ["picture"] (defScope s_pieces) := ⟨rfl, rfl, rfl, by decide +kernel, rfl, by decide +kernel, by decide +kernel⟩
theorem d_pieces (F : DefAt K mg "pieces" "pieces" s_pieces ["picture"]) (D_stretches_of : Def P w K mg base ct 1 "stretches_of" 1 .ow g_stretches_of) (D_classes_of : Def P w K mg base ct 3 "classes_of" 2 .ow g_classes_of) : Def P w K mg base ct 4 "pieces" 1 .ow g_pieces := by
  refine mkDef (kr := .ow) (M' := []) F sc_pieces fun f cdv A outer s H E hr A0 => ?_
  have tk := fun _ : Unit => takes_of (X := cxOf (L2.CX P w) P w K mg base ["picture"] "pieces" (defScope s_pieces) f cdv A outer s H E) rfl rfl rfl rfl
  have hpo := fun _ : Unit => passes_of (X := cxOf (L2.CX P w) P w K mg base ["picture"] "pieces" (defScope s_pieces) f cdv A outer s H E) rfl
  exact (fss_one (fs_ret (fe_callD A0 (fun _ => D_classes_of) (fun _ => hr.mono (by decide)) (fun _ => rfl) tk (len_cons (len_cons len_nil)) (fa_cons (FE.sh (fe_callD A0 (fun _ => D_stretches_of) (fun _ => hr.mono (by decide)) (fun _ => rfl) tk (len_cons len_nil) (fa_cons (fe_var 0 (fun _ => rfl) (fun _ => .inl rfl) rfl) fa_nil (fun _ => rfl)) (fun _ => rfl) (fun _ => rfl))) (fa_cons fe_int fa_nil (fun _ => rfl)) (fun _ => rfl)) (fun _ => rfl) (fun _ => rfl))))
theorem sc__law_cell_at : FnScope ["_law_script", "_law_k"] ["_law_script", "_law_k"] (defScope s__law_cell_at) := ⟨rfl, rfl, rfl, by decide +kernel, rfl, by decide +kernel, by decide +kernel⟩
theorem d__law_cell_at (F : DefAt K mg "_law_cell_at" "_law_cell_at" s__law_cell_at ["_law_script", "_law_k"]) (m_len : mg "len" = none) : Def P w K mg base ct 1 "_law_cell_at" 2 .sh g__law_cell_at := by
  refine mkDef (kr := .sh) (M' := []) F sc__law_cell_at fun f cdv A outer s H E hr A0 => ?_
  have tk := fun _ : Unit => takes_of (X := cxOf (L2.CX P w) P w K mg base ["_law_script", "_law_k"] "_law_cell_at" (defScope s__law_cell_at) f cdv A outer s H E) rfl rfl rfl rfl
  have hpo := fun _ : Unit => passes_of (X := cxOf (L2.CX P w) P w K mg base ["_law_script", "_law_k"] "_law_cell_at" (defScope s__law_cell_at) f cdv A outer s H E) rfl
  exact (fss_cons (M1 := []) (fs_if (ft_lt (fe_var 1 (fun _ => rfl) (fun _ => .inl rfl) rfl) (fe_len A0 ⟨fun _ => rfl, fun _ => m_len, fun _ => rfl, fun _ => rfl⟩ (fe_var 0 (fun _ => rfl) (fun _ => .inl rfl) rfl)))
    (fss_one (fs_ret (fe_ix A0 (fe_var 0 (fun _ => rfl) (fun _ => .inl rfl) rfl) (fe_var 1 (fun _ => rfl) (fun _ => .inl rfl) rfl) (fun _ _ => rfl))))
    fss_nil)
    (fss_one (fs_ret fe_int)))
theorem sc__law_signed : FnScope ["_law_cell", "_law_most"] ["_law_cell", "_law_most"] (defScope s__law_signed) := ⟨rfl, rfl, rfl, by decide +kernel, rfl, by decide +kernel, by decide +kernel⟩
theorem d__law_signed (F : DefAt K mg "_law_signed" "_law_signed" s__law_signed ["_law_cell", "_law_most"]) : Def P w K mg base ct 1 "_law_signed" 2 .sh g__law_signed := by
  refine mkDef (kr := .sh) (M' := []) F sc__law_signed fun f cdv A outer s H E hr A0 => ?_
  have tk := fun _ : Unit => takes_of (X := cxOf (L2.CX P w) P w K mg base ["_law_cell", "_law_most"] "_law_signed" (defScope s__law_signed) f cdv A outer s H E) rfl rfl rfl rfl
  have hpo := fun _ : Unit => passes_of (X := cxOf (L2.CX P w) P w K mg base ["_law_cell", "_law_most"] "_law_signed" (defScope s__law_signed) f cdv A outer s H E) rfl
  exact (fss_cons (M1 := []) (fs_if (ft_lt (fe_var 0 (fun _ => rfl) (fun _ => .inl rfl) rfl) fe_int)
    (fss_one (fs_ret (fe_sub fe_int (fe_mod (fe_sub fe_int (fe_var 0 (fun _ => rfl) (fun _ => .inl rfl) rfl)) (fe_var 1 (fun _ => rfl) (fun _ => .inl rfl) rfl)))))
    fss_nil)
    (fss_one (fs_ret (fe_mod (fe_var 0 (fun _ => rfl) (fun _ => .inl rfl) rfl) (fe_var 1 (fun _ => rfl) (fun _ => .inl rfl) rfl)))))
theorem sc__law_row : FnScope ["_law_bits", "_law_x", "_law_wide", "_law_row_here", "_law_k", "_law_size"] ["_law_bits", "_law_x", "_law_wide"] (defScope s__law_row) := ⟨rfl, rfl, rfl, by decide +kernel, rfl, by decide +kernel, by decide +kernel⟩
theorem d__law_row (F : DefAt K mg "_law_row" "_law_row" s__law_row ["_law_bits", "_law_x", "_law_wide"]) (m_len : mg "len" = none) (m_range : mg "range" = none) (m_tuple : mg "tuple" = none) : Def P w K mg base ct 1 "_law_row" 3 .sh g__law_row := by
  refine mkDef (kr := .sh) (M' := []) F sc__law_row fun f cdv A outer s H E hr A0 => ?_
  have tk := fun _ : Unit => takes_of (X := cxOf (L2.CX P w) P w K mg base ["_law_bits", "_law_x", "_law_wide", "_law_row_here", "_law_k", "_law_size"] "_law_row" (defScope s__law_row) f cdv A outer s H E) rfl rfl rfl rfl
  have hpo := fun _ : Unit => passes_of (X := cxOf (L2.CX P w) P w K mg base ["_law_bits", "_law_x", "_law_wide", "_law_row_here", "_law_k", "_law_size"] "_law_row" (defScope s__law_row) f cdv A outer s H E) rfl
  exact (fss_cons (M1 := [3]) (fs_setON A0 3 rfl (fun _ => rfl) (fun _ => .inl rfl) (fe_lst fa_nil) (fun _ => rfl) (fun _ => .inl rfl))
    (fss_cons (M1 := [3]) (fs_for A0 hpo (fi_rng1 (fun _ => rfl) (fun _ => m_range) fe_int (fun _ => rfl) (fun _ => rfl)) (fg_name A0 4 (fun _ => rfl) (fun _ => .inl rfl) rfl (fun _ => .inl rfl))
    (fss_cons (M1 := [3]) (fs_setN A0 5 rfl (fun _ => rfl) (fun _ => .inl rfl) fe_int (fun _ => rfl) (fun _ => .inl rfl))
    (fss_cons (M1 := [3]) (fs_if (ft_val (fe_var 2 (fun _ => rfl) (fun _ => .inl rfl) rfl) (fun _ _ => rfl))
    (fss_one (fs_setN A0 5 rfl (fun _ => rfl) (fun _ => .inl rfl) (fe_ix A0 (fe_lst (fa_cons fe_int (fa_cons fe_int (fa_cons fe_int (fa_cons (fe_pow fe_int fe_int) (fa_cons fe_int (fa_cons fe_int (fa_cons fe_int (fa_cons fe_int fa_nil (fun _ => rfl)) (fun _ => rfl)) (fun _ => rfl)) (fun _ => rfl)) (fun _ => rfl)) (fun _ => rfl)) (fun _ => rfl)) (fun _ => rfl))) (fe_var 4 (fun _ => rfl) (fun _ => .inl rfl) rfl) (fun _ _ => rfl)) (fun _ => rfl) (fun _ => .inl rfl)))
    fss_nil)
    (fss_cons (M1 := [3]) (fs_if (ft_eq A0 (fe_mod (fe_var 0 (fun _ => rfl) (fun _ => .inl rfl) rfl) fe_int) fe_int)
    (fss_one (fs_if (FW.ft (fw_and (ft_gt (fe_len A0 ⟨fun _ => rfl, fun _ => m_len, fun _ => rfl, fun _ => rfl⟩ (fe_varO 3 (fun _ => rfl) (fun _ => .inl rfl))) fe_int) (fw_and1 (ft_eq A0 (fe_ix A0 (fe_ix A0 (fe_varO 3 (fun _ => rfl) (fun _ => .inl rfl)) (fe_neg fe_int) (fun _ _ => rfl)) fe_int (fun _ _ => rfl)) (fe_sub (fe_var 1 (fun _ => rfl) (fun _ => .inl rfl) rfl) fe_int)))))
    (fss_one (fs_setIx A0 3 (fun _ => rfl) (fun _ => .inl rfl) rfl (fe_tup (fa_cons (fe_ix A0 (fe_ix A0 (fe_varO 3 (fun _ => rfl) (fun _ => .inl rfl)) (fe_neg fe_int) (fun _ _ => rfl)) fe_int (fun _ _ => rfl)) (fa_cons (fe_sub (fe_add A0 (fe_var 1 (fun _ => rfl) (fun _ => .inl rfl) rfl) (fe_var 5 (fun _ => rfl) (fun _ => .inl rfl) rfl)) fe_int) fa_nil (fun _ => rfl)) (fun _ => rfl))) (fe_neg fe_int) (fun _ => rfl) (fun _ => rfl) (fun _ => rfl) (fun _ _ => rfl)))
    (fss_one (fs_append A0 3 (fun _ => rfl) (fun _ => .inl rfl) rfl (fe_tup (fa_cons (fe_var 1 (fun _ => rfl) (fun _ => .inl rfl) rfl) (fa_cons (fe_sub (fe_add A0 (fe_var 1 (fun _ => rfl) (fun _ => .inl rfl) rfl) (fe_var 5 (fun _ => rfl) (fun _ => .inl rfl) rfl)) fe_int) fa_nil (fun _ => rfl)) (fun _ => rfl))) ⟨fun _ => rfl, fun _ => rfl, rfl, fun _ => rfl, fun _ => rfl, fun _ => rfl⟩))))
    fss_nil)
    (fss_cons (M1 := [3]) (fs_setN A0 0 rfl (fun _ => rfl) (fun _ => .inl rfl) (fe_fdiv (fe_var 0 (fun _ => rfl) (fun _ => .inl rfl) rfl) fe_int) (fun _ => rfl) (fun _ => .inl rfl))
    (fss_one (fs_setN A0 1 rfl (fun _ => rfl) (fun _ => .inl rfl) (fe_add A0 (fe_var 1 (fun _ => rfl) (fun _ => .inl rfl) rfl) (fe_var 5 (fun _ => rfl) (fun _ => .inl rfl) rfl)) (fun _ => rfl) (fun _ => .inl rfl))))))) (fun _ _ => rfl))
    (fss_one (fs_ret (fe_tupleOf A0 ⟨fun _ => rfl, fun _ => m_tuple, fun _ => rfl, fun _ => rfl⟩ (fe_varO 3 (fun _ => rfl) (fun _ => .inl rfl)))))))
theorem sc__law_picture : FnScope ["_law_script", "_law_first", "_law_x", "_law_y", "_law_rows", "_law_k", "_law_bits", "_law_j", "_law_row_here"] ["_law_script"] (defScope s__law_picture) := ⟨rfl, rfl, rfl, by decide +kernel, rfl, by decide +kernel, by decide +kernel⟩
theorem d__law_picture (F : DefAt K mg "_law_picture" "_law_picture" s__law_picture ["_law_script"]) (m_len : mg "len" = none) (m_min : mg "min" = none) (m_range : mg "range" = none) (m_tuple : mg "tuple" = none) (D__law_cell_at : Def P w K mg base ct 1 "_law_cell_at" 2 .sh g__law_cell_at) (D__law_signed : Def P w K mg base ct 1 "_law_signed" 2 .sh g__law_signed) (D__law_row : Def P w K mg base ct 1 "_law_row" 3 .sh g__law_row) : Def P w K mg base ct 2 "_law_picture" 1 .sh g__law_picture := by
  refine mkDef (kr := .sh) (M' := []) F sc__law_picture fun f cdv A outer s H E hr A0 => ?_
  have tk := fun _ : Unit => takes_of (X := cxOf (L2.CX P w) P w K mg base ["_law_script", "_law_first", "_law_x", "_law_y", "_law_rows", "_law_k", "_law_bits", "_law_j", "_law_row_here"] "_law_picture" (defScope s__law_picture) f cdv A outer s H E) rfl rfl rfl rfl
  have hpo := fun _ : Unit => passes_of (X := cxOf (L2.CX P w) P w K mg base ["_law_script", "_law_first", "_law_x", "_law_y", "_law_rows", "_law_k", "_law_bits", "_law_j", "_law_row_here"] "_law_picture" (defScope s__law_picture) f cdv A outer s H E) rfl
  exact (fss_cons (M1 := []) (fs_setN A0 1 rfl (fun _ => rfl) (fun _ => .inl rfl) (fe_callD A0 (fun _ => D__law_cell_at) (fun _ => hr.mono (by decide)) (fun _ => rfl) tk (len_cons (len_cons len_nil)) (fa_cons (fe_var 0 (fun _ => rfl) (fun _ => .inl rfl) rfl) (fa_cons fe_int fa_nil (fun _ => rfl)) (fun _ => rfl)) (fun _ => rfl) (fun _ => rfl)) (fun _ => rfl) (fun _ => .inl rfl))
    (fss_cons (M1 := []) (fs_setN A0 2 rfl (fun _ => rfl) (fun _ => .inl rfl) (fe_callD A0 (fun _ => D__law_signed) (fun _ => hr.mono (by decide)) (fun _ => rfl) tk (len_cons (len_cons len_nil)) (fa_cons (fe_fdiv (fe_var 1 (fun _ => rfl) (fun _ => .inl rfl) rfl) fe_int) (fa_cons (fe_ix A0 (fe_lst (fa_cons fe_int (fa_cons (fe_pow fe_int fe_int) fa_nil (fun _ => rfl)) (fun _ => rfl))) (fe_mod (fe_fdiv (fe_var 1 (fun _ => rfl) (fun _ => .inl rfl) rfl) fe_int) fe_int) (fun _ _ => rfl)) fa_nil (fun _ => rfl)) (fun _ => rfl)) (fun _ => rfl) (fun _ => rfl)) (fun _ => rfl) (fun _ => .inl rfl))
    (fss_cons (M1 := []) (fs_setN A0 3 rfl (fun _ => rfl) (fun _ => .inl rfl) (fe_callD A0 (fun _ => D__law_signed) (fun _ => hr.mono (by decide)) (fun _ => rfl) tk (len_cons (len_cons len_nil)) (fa_cons (fe_fdiv (fe_var 1 (fun _ => rfl) (fun _ => .inl rfl) rfl) fe_int) (fa_cons (fe_ix A0 (fe_lst (fa_cons fe_int (fa_cons (fe_pow fe_int fe_int) fa_nil (fun _ => rfl)) (fun _ => rfl))) (fe_mod (fe_fdiv (fe_var 1 (fun _ => rfl) (fun _ => .inl rfl) rfl) fe_int) fe_int) (fun _ _ => rfl)) fa_nil (fun _ => rfl)) (fun _ => rfl)) (fun _ => rfl) (fun _ => rfl)) (fun _ => rfl) (fun _ => .inl rfl))
    (fss_cons (M1 := [4]) (fs_setON A0 4 rfl (fun _ => rfl) (fun _ => .inl rfl) (fe_lst fa_nil) (fun _ => rfl) (fun _ => .inl rfl))
    (fss_cons (M1 := [4]) (fs_for A0 hpo (fi_rng1 (fun _ => rfl) (fun _ => m_range) (fe_min2 A0 ⟨fun _ => rfl, fun _ => m_min, fun _ => rfl, fun _ => rfl, fun _ => rfl⟩ fe_int (fe_sub (fe_len A0 ⟨fun _ => rfl, fun _ => m_len, fun _ => rfl, fun _ => rfl⟩ (fe_var 0 (fun _ => rfl) (fun _ => .inl rfl) rfl)) fe_int)) (fun _ => rfl) (fun _ => rfl)) (fg_name A0 5 (fun _ => rfl) (fun _ => .inl rfl) rfl (fun _ => .inl rfl))
    (fss_cons (M1 := [4]) (fs_setN A0 6 rfl (fun _ => rfl) (fun _ => .inl rfl) (fe_fdiv (fe_mod (fe_mul (fe_ix A0 (fe_var 0 (fun _ => rfl) (fun _ => .inl rfl) rfl) (fe_add A0 fe_int (fe_var 5 (fun _ => rfl) (fun _ => .inl rfl) rfl)) (fun _ _ => rfl)) fe_int) fe_int) fe_int) (fun _ => rfl) (fun _ => .inl rfl))
    (fss_cons (M1 := [4]) (fs_for A0 hpo (fi_rng3 (fun _ => rfl) (fun _ => m_range) (fe_add A0 fe_int (fe_var 5 (fun _ => rfl) (fun _ => .inl rfl) rfl)) (fe_min2 A0 ⟨fun _ => rfl, fun _ => m_min, fun _ => rfl, fun _ => rfl, fun _ => rfl⟩ (fe_len A0 ⟨fun _ => rfl, fun _ => m_len, fun _ => rfl, fun _ => rfl⟩ (fe_var 0 (fun _ => rfl) (fun _ => .inl rfl) rfl)) fe_int) fe_int (fun _ => rfl) (fun _ => rfl) (fun _ => rfl) (fun _ => rfl)) (fg_name A0 7 (fun _ => rfl) (fun _ => .inl rfl) rfl (fun _ => .inl rfl))
    (fss_one (fs_setN A0 6 rfl (fun _ => rfl) (fun _ => .inl rfl) (fe_add A0 (fe_var 6 (fun _ => rfl) (fun _ => .inl rfl) rfl) (fe_mod (fe_mul fe_int (fe_ix A0 (fe_var 0 (fun _ => rfl) (fun _ => .inl rfl) rfl) (fe_var 7 (fun _ => rfl) (fun _ => .inl rfl) rfl) (fun _ _ => rfl))) fe_int)) (fun _ => rfl) (fun _ => .inl rfl))) (fun _ _ => rfl))
    (fss_cons (M1 := [4]) (fs_setN A0 8 rfl (fun _ => rfl) (fun _ => .inl rfl) (fe_callD A0 (fun _ => D__law_row) (fun _ => hr.mono (by decide)) (fun _ => rfl) tk (len_cons (len_cons (len_cons len_nil))) (fa_cons (fe_var 6 (fun _ => rfl) (fun _ => .inl rfl) rfl) (fa_cons (fe_var 2 (fun _ => rfl) (fun _ => .inl rfl) rfl) (fa_cons (fe_eq A0 (fe_mod (fe_var 1 (fun _ => rfl) (fun _ => .inl rfl) rfl) fe_int) fe_int) fa_nil (fun _ => rfl)) (fun _ => rfl)) (fun _ => rfl)) (fun _ => rfl) (fun _ => rfl)) (fun _ => rfl) (fun _ => .inl rfl))
    (fss_one (fs_if (ft_gt (fe_len A0 ⟨fun _ => rfl, fun _ => m_len, fun _ => rfl, fun _ => rfl⟩ (fe_var 8 (fun _ => rfl) (fun _ => .inl rfl) rfl)) fe_int)
    (fss_one (fs_append A0 4 (fun _ => rfl) (fun _ => .inl rfl) rfl (fe_tup (fa_cons (fe_add A0 (fe_var 3 (fun _ => rfl) (fun _ => .inl rfl) rfl) (fe_var 5 (fun _ => rfl) (fun _ => .inl rfl) rfl)) (fa_cons (fe_var 8 (fun _ => rfl) (fun _ => .inl rfl) rfl) fa_nil (fun _ => rfl)) (fun _ => rfl))) ⟨fun _ => rfl, fun _ => rfl, rfl, fun _ => rfl, fun _ => rfl, fun _ => rfl⟩))
    fss_nil))))) (fun _ _ => rfl))
    (fss_one (fs_ret (fe_tupleOf A0 ⟨fun _ => rfl, fun _ => m_tuple, fun _ => rfl, fun _ => rfl⟩ (fe_varO 4 (fun _ => rfl) (fun _ => .inl rfl))))))))))
theorem sc__law_stretches : FnScope ["_law_picture_here", "_law_found", "_law_y", "_law_row_here", "_law_low", "_law_high"] ["_law_picture_here"] (defScope s__law_stretches) := ⟨rfl, rfl, rfl, by decide +kernel, rfl, by decide +kernel, by decide +kernel⟩
theorem d__law_stretches (F : DefAt K mg "_law_stretches" "_law_stretches" s__law_stretches ["_law_picture_here"]) : Def P w K mg base ct 1 "_law_stretches" 1 .ow g__law_stretches := by
  refine mkDef (kr := .ow) (M' := []) F sc__law_stretches fun f cdv A outer s H E hr A0 => ?_
  have tk := fun _ : Unit => takes_of (X := cxOf (L2.CX P w) P w K mg base ["_law_picture_here", "_law_found", "_law_y", "_law_row_here", "_law_low", "_law_high"] "_law_stretches" (defScope s__law_stretches) f cdv A outer s H E) rfl rfl rfl rfl
  have hpo := fun _ : Unit => passes_of (X := cxOf (L2.CX P w) P w K mg base ["_law_picture_here", "_law_found", "_law_y", "_law_row_here", "_law_low", "_law_high"] "_law_stretches" (defScope s__law_stretches) f cdv A outer s H E) rfl
  exact (fss_cons (M1 := [1]) (fs_setON A0 1 rfl (fun _ => rfl) (fun _ => .inl rfl) (fe_lst fa_nil) (fun _ => rfl) (fun _ => .inl rfl))
    (fss_cons (M1 := [1]) (fs_for A0 hpo (fi_seq A0 (fe_var 0 (fun _ => rfl) (fun _ => .inl rfl) rfl)) (fg_tup A0 (fgs_cons (fg_name A0 2 (fun _ => rfl) (fun _ => .inl rfl) rfl (fun _ => .inl rfl)) (fgs_cons (fg_name A0 3 (fun _ => rfl) (fun _ => .inl rfl) rfl (fun _ => .inl rfl)) fgs_nil (fun _ => rfl)) (fun _ => rfl)) (fun _ => rfl) (fun _ => rfl))
    (fss_one (fs_for A0 hpo (fi_seq A0 (fe_var 3 (fun _ => rfl) (fun _ => .inl rfl) rfl)) (fg_tup A0 (fgs_cons (fg_name A0 4 (fun _ => rfl) (fun _ => .inl rfl) rfl (fun _ => .inl rfl)) (fgs_cons (fg_name A0 5 (fun _ => rfl) (fun _ => .inl rfl) rfl (fun _ => .inl rfl)) fgs_nil (fun _ => rfl)) (fun _ => rfl)) (fun _ => rfl) (fun _ => rfl))
    (fss_one (fs_append A0 1 (fun _ => rfl) (fun _ => .inl rfl) rfl (fe_tup (fa_cons (fe_var 2 (fun _ => rfl) (fun _ => .inl rfl) rfl) (fa_cons (fe_var 4 (fun _ => rfl) (fun _ => .inl rfl) rfl) (fa_cons (fe_var 5 (fun _ => rfl) (fun _ => .inl rfl) rfl) fa_nil (fun _ => rfl)) (fun _ => rfl)) (fun _ => rfl))) ⟨fun _ => rfl, fun _ => rfl, rfl, fun _ => rfl, fun _ => rfl, fun _ => rfl⟩)) (fun _ _ => rfl))) (fun _ _ => rfl))
    (fss_one (fs_retO 1 (fun _ => rfl) (fun _ => .inl rfl) rfl))))
theorem sc__law_touch : FnScope ["_law_one", "_law_other"] ["_law_one", "_law_other"] (defScope s__law_touch) := ⟨rfl, rfl, rfl, by decide +kernel, rfl, by decide +kernel, by decide +kernel⟩
theorem d__law_touch (F : DefAt K mg "_law_touch" "_law_touch" s__law_touch ["_law_one", "_law_other"]) : Def P w K mg base ct 1 "_law_touch" 2 .sh g__law_touch := by
  refine mkDef (kr := .sh) (M' := []) F sc__law_touch fun f cdv A outer s H E hr A0 => ?_
  have tk := fun _ : Unit => takes_of (X := cxOf (L2.CX P w) P w K mg base ["_law_one", "_law_other"] "_law_touch" (defScope s__law_touch) f cdv A outer s H E) rfl rfl rfl rfl
  have hpo := fun _ : Unit => passes_of (X := cxOf (L2.CX P w) P w K mg base ["_law_one", "_law_other"] "_law_touch" (defScope s__law_touch) f cdv A outer s H E) rfl
  exact (fss_cons (M1 := []) (fs_if (FW.ft (fw_and (ft_ne A0 (fe_ix A0 (fe_var 0 (fun _ => rfl) (fun _ => .inl rfl) rfl) fe_int (fun _ _ => rfl)) (fe_add A0 (fe_ix A0 (fe_var 1 (fun _ => rfl) (fun _ => .inl rfl) rfl) fe_int (fun _ _ => rfl)) fe_int)) (fw_and1 (ft_ne A0 (fe_ix A0 (fe_var 1 (fun _ => rfl) (fun _ => .inl rfl) rfl) fe_int (fun _ _ => rfl)) (fe_add A0 (fe_ix A0 (fe_var 0 (fun _ => rfl) (fun _ => .inl rfl) rfl) fe_int (fun _ _ => rfl)) fe_int)))))
    (fss_one (fs_ret fe_bl))
    fss_nil)
    (fss_one (fs_ret (fe_and (fe_le (fe_ix A0 (fe_var 0 (fun _ => rfl) (fun _ => .inl rfl) rfl) fe_int (fun _ _ => rfl)) (fe_add A0 (fe_ix A0 (fe_var 1 (fun _ => rfl) (fun _ => .inl rfl) rfl) fe_int (fun _ _ => rfl)) fe_int)) (fe_one (fe_le (fe_ix A0 (fe_var 1 (fun _ => rfl) (fun _ => .inl rfl) rfl) fe_int (fun _ _ => rfl)) (fe_add A0 (fe_ix A0 (fe_var 0 (fun _ => rfl) (fun _ => .inl rfl) rfl) fe_int (fun _ _ => rfl)) fe_int)))))))
theorem sc__law_whole : FnScope ["_law_found"] ["_law_found"] (defScope s__law_whole) := ⟨rfl, rfl, rfl, by decide +kernel, rfl, by decide +kernel, by decide +kernel⟩
theorem d__law_whole (F : DefAt K mg "_law_whole" "_law_whole" s__law_whole ["_law_found"]) (m_bool : mg "bool" = none) (m_int : mg "int" = none) (m_isinstance : mg "isinstance" = none) : Def P w K mg base ct 1 "_law_whole" 1 .sh g__law_whole := by
  refine mkDef (kr := .sh) (M' := []) F sc__law_whole fun f cdv A outer s H E hr A0 => ?_
  have tk := fun _ : Unit => takes_of (X := cxOf (L2.CX P w) P w K mg base ["_law_found"] "_law_whole" (defScope s__law_whole) f cdv A outer s H E) rfl rfl rfl rfl
  have hpo := fun _ : Unit => passes_of (X := cxOf (L2.CX P w) P w K mg base ["_law_found"] "_law_whole" (defScope s__law_whole) f cdv A outer s H E) rfl
  exact (fss_one (fs_ret (fe_and (fe_isi (x := "int") A0 "int" ⟨fun _ => rfl, fun _ => m_isinstance, fun _ => rfl, fun _ => rfl, fun _ => rfl⟩ (fun _ => rfl) (fun _ => m_int) (by decide +kernel) (fe_var 0 (fun _ => rfl) (fun _ => .inl rfl) rfl)) (fe_one (fe_not (fe_isi (x := "bool") A0 "bool" ⟨fun _ => rfl, fun _ => m_isinstance, fun _ => rfl, fun _ => rfl, fun _ => rfl⟩ (fun _ => rfl) (fun _ => m_bool) (by decide +kernel) (fe_var 0 (fun _ => rfl) (fun _ => .inl rfl) rfl)))))))
theorem sc__law_kinds : FnScope ["_law_member"] ["_law_member"] (defScope s__law_kinds) := ⟨rfl, rfl, rfl, by decide +kernel, rfl, by decide +kernel, by decide +kernel⟩
theorem d__law_kinds (F : DefAt K mg "_law_kinds" "_law_kinds" s__law_kinds ["_law_member"]) (m_isinstance : mg "isinstance" = none) (m_len : mg "len" = none) (m_tuple : mg "tuple" = none) (D__law_whole : Def P w K mg base ct 1 "_law_whole" 1 .sh g__law_whole) : Def P w K mg base ct 2 "_law_kinds" 1 .sh g__law_kinds := by
  refine mkDef (kr := .sh) (M' := []) F sc__law_kinds fun f cdv A outer s H E hr A0 => ?_
  have tk := fun _ : Unit => takes_of (X := cxOf (L2.CX P w) P w K mg base ["_law_member"] "_law_kinds" (defScope s__law_kinds) f cdv A outer s H E) rfl rfl rfl rfl
  have hpo := fun _ : Unit => passes_of (X := cxOf (L2.CX P w) P w K mg base ["_law_member"] "_law_kinds" (defScope s__law_kinds) f cdv A outer s H E) rfl
  exact (fss_cons (M1 := []) (fs_if (FW.ft (fw_or (ft_not (ft_val (fe_isi (x := "tuple") A0 "tuple" ⟨fun _ => rfl, fun _ => m_isinstance, fun _ => rfl, fun _ => rfl, fun _ => rfl⟩ (fun _ => rfl) (fun _ => m_tuple) (by decide +kernel) (fe_var 0 (fun _ => rfl) (fun _ => .inl rfl) rfl)) (fun _ _ => rfl))) (fw_or1 (ft_ne A0 (fe_len A0 ⟨fun _ => rfl, fun _ => m_len, fun _ => rfl, fun _ => rfl⟩ (fe_var 0 (fun _ => rfl) (fun _ => .inl rfl) rfl)) fe_int))))
    (fss_one (fs_ret fe_bl))
    fss_nil)
    (fss_one (fs_ret (fe_and (fe_callD A0 (fun _ => D__law_whole) (fun _ => hr.mono (by decide)) (fun _ => rfl) tk (len_cons len_nil) (fa_cons (fe_ix A0 (fe_var 0 (fun _ => rfl) (fun _ => .inl rfl) rfl) fe_int (fun _ _ => rfl)) fa_nil (fun _ => rfl)) (fun _ => rfl) (fun _ => rfl)) (fe_and (fe_callD A0 (fun _ => D__law_whole) (fun _ => hr.mono (by decide)) (fun _ => rfl) tk (len_cons len_nil) (fa_cons (fe_ix A0 (fe_var 0 (fun _ => rfl) (fun _ => .inl rfl) rfl) fe_int (fun _ _ => rfl)) fa_nil (fun _ => rfl)) (fun _ => rfl) (fun _ => rfl)) (fe_one (fe_callD A0 (fun _ => D__law_whole) (fun _ => hr.mono (by decide)) (fun _ => rfl) tk (len_cons len_nil) (fa_cons (fe_ix A0 (fe_var 0 (fun _ => rfl) (fun _ => .inl rfl) rfl) fe_int (fun _ _ => rfl)) fa_nil (fun _ => rfl)) (fun _ => rfl) (fun _ => rfl))))))))
theorem sc__law_walked : FnScope ["_law_piece", "_law_k", "_law_place", "_law_j", "_law_ahead"] ["_law_piece"] (defScope s__law_walked) := ⟨rfl, rfl, rfl, by decide +kernel, rfl, by decide +kernel, by decide +kernel⟩
theorem d__law_walked (F : DefAt K mg "_law_walked" "_law_walked" s__law_walked ["_law_piece"]) (m_isinstance : mg "isinstance" = none) (m_len : mg "len" = none) (m_list : mg "list" = none) (m_range : mg "range" = none) (D__law_touch : Def P w K mg base ct 1 "_law_touch" 2 .sh g__law_touch) (D__law_whole : Def P w K mg base ct 1 "_law_whole" 1 .sh g__law_whole) (D__law_kinds : Def P w K mg base ct 2 "_law_kinds" 1 .sh g__law_kinds) : Def P w K mg base ct 3 "_law_walked" 1 .sh g__law_walked := by
  refine mkDef (kr := .sh) (M' := []) F sc__law_walked fun f cdv A outer s H E hr A0 => ?_
  have tk := fun _ : Unit => takes_of (X := cxOf (L2.CX P w) P w K mg base ["_law_piece", "_law_k", "_law_place", "_law_j", "_law_ahead"] "_law_walked" (defScope s__law_walked) f cdv A outer s H E) rfl rfl rfl rfl
  have hpo := fun _ : Unit => passes_of (X := cxOf (L2.CX P w) P w K mg base ["_law_piece", "_law_k", "_law_place", "_law_j", "_law_ahead"] "_law_walked" (defScope s__law_walked) f cdv A outer s H E) rfl
  exact (fss_cons (M1 := []) (fs_if (FW.ft (fw_or (ft_not (ft_val (fe_isi (x := "list") A0 "list" ⟨fun _ => rfl, fun _ => m_isinstance, fun _ => rfl, fun _ => rfl, fun _ => rfl⟩ (fun _ => rfl) (fun _ => m_list) (by decide +kernel) (fe_var 0 (fun _ => rfl) (fun _ => .inl rfl) rfl)) (fun _ _ => rfl))) (fw_or (ft_eq A0 (fe_len A0 ⟨fun _ => rfl, fun _ => m_len, fun _ => rfl, fun _ => rfl⟩ (fe_var 0 (fun _ => rfl) (fun _ => .inl rfl) rfl)) fe_int) (fw_or (ft_not (ft_val (fe_callD A0 (fun _ => D__law_kinds) (fun _ => hr.mono (by decide)) (fun _ => rfl) tk (len_cons len_nil) (fa_cons (fe_ix A0 (fe_var 0 (fun _ => rfl) (fun _ => .inl rfl) rfl) fe_int (fun _ _ => rfl)) fa_nil (fun _ => rfl)) (fun _ => rfl) (fun _ => rfl)) (fun _ _ => rfl))) (fw_or1 (ft_notN (fe_ix A0 (fe_ix A0 (fe_var 0 (fun _ => rfl) (fun _ => .inl rfl) rfl) fe_int (fun _ _ => rfl)) fe_int (fun _ _ => rfl)) fe_non))))))
    (fss_one (fs_ret fe_bl))
    fss_nil)
    (fss_cons (M1 := []) (fs_for A0 hpo (fi_rng2 (fun _ => rfl) (fun _ => m_range) fe_int (fe_len A0 ⟨fun _ => rfl, fun _ => m_len, fun _ => rfl, fun _ => rfl⟩ (fe_var 0 (fun _ => rfl) (fun _ => .inl rfl) rfl)) (fun _ => rfl) (fun _ => rfl) (fun _ => rfl) (fun _ => rfl)) (fg_name A0 1 (fun _ => rfl) (fun _ => .inl rfl) rfl (fun _ => .inl rfl))
    (fss_cons (M1 := []) (fs_if (FW.ft (fw_or (ft_not (ft_val (fe_callD A0 (fun _ => D__law_kinds) (fun _ => hr.mono (by decide)) (fun _ => rfl) tk (len_cons len_nil) (fa_cons (fe_ix A0 (fe_var 0 (fun _ => rfl) (fun _ => .inl rfl) rfl) (fe_var 1 (fun _ => rfl) (fun _ => .inl rfl) rfl) (fun _ _ => rfl)) fa_nil (fun _ => rfl)) (fun _ => rfl) (fun _ => rfl)) (fun _ _ => rfl))) (fw_or (ft_not (ft_val (fe_callD A0 (fun _ => D__law_whole) (fun _ => hr.mono (by decide)) (fun _ => rfl) tk (len_cons len_nil) (fa_cons (fe_ix A0 (fe_ix A0 (fe_var 0 (fun _ => rfl) (fun _ => .inl rfl) rfl) (fe_var 1 (fun _ => rfl) (fun _ => .inl rfl) rfl) (fun _ _ => rfl)) fe_int (fun _ _ => rfl)) fa_nil (fun _ => rfl)) (fun _ => rfl) (fun _ => rfl)) (fun _ _ => rfl))) (fw_or (ft_lt (fe_ix A0 (fe_ix A0 (fe_var 0 (fun _ => rfl) (fun _ => .inl rfl) rfl) (fe_var 1 (fun _ => rfl) (fun _ => .inl rfl) rfl) (fun _ _ => rfl)) fe_int (fun _ _ => rfl)) fe_int) (fw_or1 (ft_ge (fe_ix A0 (fe_ix A0 (fe_var 0 (fun _ => rfl) (fun _ => .inl rfl) rfl) (fe_var 1 (fun _ => rfl) (fun _ => .inl rfl) rfl) (fun _ _ => rfl)) fe_int (fun _ _ => rfl)) (fe_var 1 (fun _ => rfl) (fun _ => .inl rfl) rfl)))))))
    (fss_one (fs_ret fe_bl))
    fss_nil)
    (fss_cons (M1 := []) (fs_setN A0 2 rfl (fun _ => rfl) (fun _ => .inl rfl) (fe_ix A0 (fe_ix A0 (fe_var 0 (fun _ => rfl) (fun _ => .inl rfl) rfl) (fe_var 1 (fun _ => rfl) (fun _ => .inl rfl) rfl) (fun _ _ => rfl)) fe_int (fun _ _ => rfl)) (fun _ => rfl) (fun _ => .inl rfl))
    (fss_cons (M1 := []) (fs_if (ft_not (ft_val (fe_callD A0 (fun _ => D__law_touch) (fun _ => hr.mono (by decide)) (fun _ => rfl) tk (len_cons (len_cons len_nil)) (fa_cons (fe_ix A0 (fe_var 0 (fun _ => rfl) (fun _ => .inl rfl) rfl) (fe_var 1 (fun _ => rfl) (fun _ => .inl rfl) rfl) (fun _ _ => rfl)) (fa_cons (fe_ix A0 (fe_var 0 (fun _ => rfl) (fun _ => .inl rfl) rfl) (fe_var 2 (fun _ => rfl) (fun _ => .inl rfl) rfl) (fun _ _ => rfl)) fa_nil (fun _ => rfl)) (fun _ => rfl)) (fun _ => rfl) (fun _ => rfl)) (fun _ _ => rfl)))
    (fss_one (fs_ret fe_bl))
    fss_nil)
    (fss_cons (M1 := []) (fs_for A0 hpo (fi_rng1 (fun _ => rfl) (fun _ => m_range) (fe_var 2 (fun _ => rfl) (fun _ => .inl rfl) rfl) (fun _ => rfl) (fun _ => rfl)) (fg_name A0 3 (fun _ => rfl) (fun _ => .inl rfl) rfl (fun _ => .inl rfl))
    (fss_one (fs_if (ft_val (fe_callD A0 (fun _ => D__law_touch) (fun _ => hr.mono (by decide)) (fun _ => rfl) tk (len_cons (len_cons len_nil)) (fa_cons (fe_ix A0 (fe_var 0 (fun _ => rfl) (fun _ => .inl rfl) rfl) (fe_var 1 (fun _ => rfl) (fun _ => .inl rfl) rfl) (fun _ _ => rfl)) (fa_cons (fe_ix A0 (fe_var 0 (fun _ => rfl) (fun _ => .inl rfl) rfl) (fe_var 3 (fun _ => rfl) (fun _ => .inl rfl) rfl) (fun _ _ => rfl)) fa_nil (fun _ => rfl)) (fun _ => rfl)) (fun _ => rfl) (fun _ => rfl)) (fun _ _ => rfl))
    (fss_one (fs_ret fe_bl))
    fss_nil)) (fun _ _ => rfl))
    (fss_cons (M1 := []) (fs_setN A0 4 rfl (fun _ => rfl) (fun _ => .inl rfl) (fe_ix A0 (fe_var 0 (fun _ => rfl) (fun _ => .inl rfl) rfl) (fe_sub (fe_var 1 (fun _ => rfl) (fun _ => .inl rfl) rfl) fe_int) (fun _ _ => rfl)) (fun _ => rfl) (fun _ => .inl rfl))
    (fss_cons (M1 := []) (fs_if (FW.ft (fw_and (ft_gt (fe_var 1 (fun _ => rfl) (fun _ => .inl rfl) rfl) fe_int) (fw_and1 (ft_lt (fe_var 2 (fun _ => rfl) (fun _ => .inl rfl) rfl) (fe_ix A0 (fe_var 4 (fun _ => rfl) (fun _ => .inl rfl) rfl) fe_int (fun _ _ => rfl))))))
    (fss_one (fs_ret fe_bl))
    fss_nil)
    (fss_one (fs_if (FW.ft (fw_and (ft_gt (fe_var 1 (fun _ => rfl) (fun _ => .inl rfl) rfl) fe_int) (fw_and (ft_eq A0 (fe_var 2 (fun _ => rfl) (fun _ => .inl rfl) rfl) (fe_ix A0 (fe_var 4 (fun _ => rfl) (fun _ => .inl rfl) rfl) fe_int (fun _ _ => rfl))) (fw_and1 (ft_leT A0 (fe_slT A0 (fe_ix A0 (fe_var 0 (fun _ => rfl) (fun _ => .inl rfl) rfl) (fe_var 1 (fun _ => rfl) (fun _ => .inl rfl) rfl) (fun _ _ => rfl)) fo_none (fo_some fe_int)) (fe_slT A0 (fe_var 4 (fun _ => rfl) (fun _ => .inl rfl) rfl) fo_none (fo_some fe_int)))))))
    (fss_one (fs_ret fe_bl))
    fss_nil)))))))) (fun _ _ => rfl))
    (fss_one (fs_ret fe_bl))))
theorem sc_law : FnScope ["_law_script", "_law_picture_here", "_law_found", "_law_members", "_law_piece", "_law_member", "_law_kept"] ["_law_script"] (defScope s_law) := ⟨rfl, rfl, rfl, by decide +kernel, rfl, by decide +kernel, by decide +kernel⟩
theorem d_law {f : Addr} {fd : FuncData} (F : Fun K "law" "law" s_law f fd) (m_isinstance : mg "isinstance" = none) (m_list : mg "list" = none) (m_sorted : mg "sorted" = none) (D_pieces : Def P w K mg base ct 4 "pieces" 1 .ow g_pieces) (D__law_picture : Def P w K mg base ct 2 "_law_picture" 1 .sh g__law_picture) (D__law_stretches : Def P w K mg base ct 1 "_law_stretches" 1 .ow g__law_stretches) (D__law_walked : Def P w K mg base ct 3 "_law_walked" 1 .sh g__law_walked) : FnOk P w K mg base (L2.CX P w) 5 f fd ["_law_script"] (spF ⟨K, ct⟩ 1 .sh g_law) := by
  refine mkFn (kr := .sh) (M' := []) F sc_law fun f cdv A outer s H E hr A0 => ?_
  have tk := fun _ : Unit => takes_of (X := cxOf (L2.CX P w) P w K mg base ["_law_script", "_law_picture_here", "_law_found", "_law_members", "_law_piece", "_law_member", "_law_kept"] "law" (defScope s_law) f cdv A outer s H E) rfl rfl rfl rfl
  have hpo := fun _ : Unit => passes_of (X := cxOf (L2.CX P w) P w K mg base ["_law_script", "_law_picture_here", "_law_found", "_law_members", "_law_piece", "_law_member", "_law_kept"] "law" (defScope s_law) f cdv A outer s H E) rfl
  refine fss_cons (M1 := []) (fs_setN A0 1 rfl (fun _ => rfl) (fun _ => .inl rfl) (fe_callD A0 (fun _ => D__law_picture) (fun _ => hr.mono (by decide)) (fun _ => rfl) tk (len_cons len_nil) (fa_cons (fe_var 0 (fun _ => rfl) (fun _ => .inl rfl) rfl) fa_nil (fun _ => rfl)) (fun _ => rfl) (fun _ => rfl)) (fun _ => rfl) (fun _ => .inl rfl)) ?_
  refine fss_thaw [1] (fun _ _ => rfl) ?_
  refine fssN_cons (M1 := []) (fs_setN A0 2 rfl (fun _ => rfl) (fun _ => .inl rfl) (FE.sh (fe_callD A0 (fun _ => D_pieces) (fun _ => hr.mono (by decide)) (fun _ => rfl) tk (len_cons len_nil) (fa_cons (fe_var 1 (fun _ => rfl) (fun _ => .inl rfl) rfl) fa_nil (fun _ => rfl)) (fun _ => rfl) (fun _ => rfl))) (fun _ => rfl) (fun _ => .inl rfl)) ?_
  refine fssN_cons (M1 := []) (fs_if (ft_not (ft_val (fe_isi (x := "list") A0 "list" ⟨fun _ => rfl, fun _ => m_isinstance, fun _ => rfl, fun _ => rfl, fun _ => rfl⟩ (fun _ => rfl) (fun _ => m_list) (by decide +kernel) (fe_var 2 (fun _ => rfl) (fun _ => .inl rfl) rfl)) (fun _ _ => rfl)))
    (fss_one (fs_ret fe_bl))
    fss_nil) ?_
  refine fssN_cons (M1 := []) (fs_setN A0 3 rfl (fun _ => rfl) (fun _ => .inl rfl) (FE.sh (fe_lst fa_nil)) (fun _ => rfl) (fun _ => .inl rfl)) ?_
  refine fssN_cons (M1 := []) (fs_for A0 hpo (fi_seq A0 (fe_var 2 (fun _ => rfl) (fun _ => .inl rfl) rfl)) (fg_name A0 4 (fun _ => rfl) (fun _ => .inl rfl) rfl (fun _ => .inl rfl))
    (fss_cons (M1 := []) (fs_if (ft_not (ft_val (fe_callD A0 (fun _ => D__law_walked) (fun _ => hr.mono (by decide)) (fun _ => rfl) tk (len_cons len_nil) (fa_cons (fe_var 4 (fun _ => rfl) (fun _ => .inl rfl) rfl) fa_nil (fun _ => rfl)) (fun _ => rfl) (fun _ => rfl)) (fun _ _ => rfl)))
    (fss_one (fs_ret fe_bl))
    fss_nil)
    (fss_one (fs_setN A0 3 rfl (fun _ => rfl) (fun _ => .inl rfl) (FE.sh (fe_cat (fe_var 3 (fun _ => rfl) (fun _ => .inl rfl) rfl) (fe_lc A0 [("_law_member", 5)] (fi_seq A0 (fe_var 4 (fun _ => rfl) (fun _ => .inl rfl) rfl)) (fun _ => blkOk_by (own := [("_law_member", 5)]) (N := ["_law_script", "_law_picture_here", "_law_found", "_law_members", "_law_piece", "_law_member", "_law_kept"]) (sc := defScope s_law) (by decide +kernel)) (fg_name (A0.blk _) 5 (fun _ => rfl) (fun _ => .inl rfl) rfl (fun _ => .inr rfl)) fts_nil (fe_slT (A0.blk _) (fe_var 5 (fun _ => rfl) (fun _ => .inl rfl) rfl) fo_none (fo_some fe_int)) (by decide) (fun _ _ => rfl)))) (fun _ => rfl) (fun _ => .inl rfl)))) (fun _ _ => rfl)) ?_
  refine fssN_cons (M1 := []) (fs_if (ft_ne A0 (fe_sorted A0 ⟨fun _ => rfl, fun _ => m_sorted, fun _ => rfl, fun _ => rfl⟩ (fe_var 3 (fun _ => rfl) (fun _ => .inl rfl) rfl)) (fe_callD A0 (fun _ => D__law_stretches) (fun _ => hr.mono (by decide)) (fun _ => rfl) tk (len_cons len_nil) (fa_cons (fe_var 1 (fun _ => rfl) (fun _ => .inl rfl) rfl) fa_nil (fun _ => rfl)) (fun _ => rfl) (fun _ => rfl)))
    (fss_one (fs_ret fe_bl))
    fss_nil) ?_
  refine fssN_tail A0 2 6 4 [1] [("_law_piece", 4)] hpo rfl (fun _ _ => rfl) (by decide) (by decide) (by decide) (fun _ => rfl) (fun _ => .inl rfl) (by decide) (by decide) (fun _ => rfl) (fun _ => rfl) (fun _ => sw_true rfl rfl rfl (by decide +kernel)) (fun _ => blkOk_by (own := [("_law_piece", 4)]) (N := ["_law_script", "_law_picture_here", "_law_found", "_law_members", "_law_piece", "_law_member", "_law_kept"]) (sc := defScope s_law) (by decide +kernel)) (fg_name (A0.blk _) 4 (fun _ => rfl) (fun _ => .inl rfl) rfl (fun _ => .inr rfl)) (fe_list (A0.blk _) ⟨fun _ => rfl, fun _ => m_list, fun _ => rfl, fun _ => rfl⟩ (fe_var 4 (fun _ => rfl) (fun _ => .inl rfl) rfl)) (by decide) (fun _ _ => rfl) (fun _ => rfl) (fun _ => .inl rfl) (fun _ => .inl rfl) (fun _ _ => rfl) (mut_appN A0 4 (fun _ => rfl) (fun _ => .inl rfl) ⟨fun _ => rfl, fun _ => rfl, rfl, fun _ => rfl, fun _ => rfl, fun _ => rfl⟩) (mut_reverse A0 2 (fun _ => rfl) (fun _ => .inl rfl) ⟨fun _ => rfl, fun _ => rfl⟩ rfl)
    ?_ (oRet_end _)
  exact (fss_one (fs_ret (fe_eq A0 (fe_callD A0 (fun _ => D_pieces) (fun _ => hr.mono (by decide)) (fun _ => rfl) tk (len_cons len_nil) (fa_cons (fe_var 1 (fun _ => rfl) (fun _ => .inl rfl) rfl) fa_nil (fun _ => rfl)) (fun _ => rfl) (fun _ => rfl)) (fe_var 6 (fun _ => rfl) (fun _ => .inl rfl) rfl))))
end
section
variable {w : World} {K : PySem.W.Frag} {mg : Str → Option Value}
theorem all_mk {h : Heap} {fa : Addr} (X : K.In h) (G : h.Ns mainGlobals mg) (hfa : mg "law" = some (.ref fa))
    {f1 : Addr} {od1 an1 : Option Addr} {sl1 : Array (Option Value)} {oc1 kV1 dc1 pm1 cd1 ct1 : Value}
    {f2 : Addr} {od2 an2 : Option Addr} {sl2 : Array (Option Value)} {oc2 kV2 dc2 pm2 cd2 ct2 : Value}
    {f3 : Addr} {od3 an3 : Option Addr} {sl3 : Array (Option Value)} {oc3 kV3 dc3 pm3 cd3 ct3 : Value}
    {f4 : Addr} {od4 an4 : Option Addr} {sl4 : Array (Option Value)} {oc4 kV4 dc4 pm4 cd4 ct4 : Value}
    {f5 : Addr} {od5 an5 : Option Addr} {sl5 : Array (Option Value)} {oc5 kV5 dc5 pm5 cd5 ct5 : Value}
    {f6 : Addr} {od6 an6 : Option Addr} {sl6 : Array (Option Value)} {oc6 kV6 dc6 pm6 cd6 ct6 : Value}
    {f7 : Addr} {od7 an7 : Option Addr} {sl7 : Array (Option Value)} {oc7 kV7 dc7 pm7 cd7 ct7 : Value}
    {f8 : Addr} {od8 an8 : Option Addr} {sl8 : Array (Option Value)} {oc8 kV8 dc8 pm8 cd8 ct8 : Value}
    {f9 : Addr} {od9 an9 : Option Addr} {sl9 : Array (Option Value)} {oc9 kV9 dc9 pm9 cd9 ct9 : Value}
    {f10 : Addr} {od10 an10 : Option Addr} {sl10 : Array (Option Value)} {oc10 kV10 dc10 pm10 cd10 ct10 : Value}
    {f11 : Addr} {od11 an11 : Option Addr} {sl11 : Array (Option Value)} {oc11 kV11 dc11 pm11 cd11 ct11 : Value}
    {f12 : Addr} {od12 an12 : Option Addr} {sl12 : Array (Option Value)} {oc12 kV12 dc12 pm12 cd12 ct12 : Value}
    {f13 : Addr} {od13 an13 : Option Addr} {sl13 : Array (Option Value)} {oc13 kV13 dc13 pm13 cd13 ct13 : Value}
    {f14 : Addr} {od14 an14 : Option Addr} {sl14 : Array (Option Value)} {oc14 kV14 dc14 pm14 cd14 ct14 : Value}
    {f15 : Addr} {od15 an15 : Option Addr} {sl15 : Array (Option Value)} {oc15 kV15 dc15 pm15 cd15 ct15 : Value}
    (a1 : PySem.W.nsIn K mainGlobals "stretches_of" = some (some (.ref f1))) (l1 : K.lookup f1 = some ⟨oc1, od1, .func (PySem.W.fnOf "stretches_of" "stretches_of" (defArgs s_stretches_of) (defBody s_stretches_of) (defScope s_stretches_of) .none kV1 dc1 pm1 an1 cd1 ct1), sl1⟩) (c1 : PySem.W.codeIn K cd1 "stretches_of" = true) (k1 : PySem.W.keepIn K (.ref f1) = true)
    (a2 : PySem.W.nsIn K mainGlobals "stretches_touch" = some (some (.ref f2))) (l2 : K.lookup f2 = some ⟨oc2, od2, .func (PySem.W.fnOf "stretches_touch" "stretches_touch" (defArgs s_stretches_touch) (defBody s_stretches_touch) (defScope s_stretches_touch) .none kV2 dc2 pm2 an2 cd2 ct2), sl2⟩) (c2 : PySem.W.codeIn K cd2 "stretches_touch" = true) (k2 : PySem.W.keepIn K (.ref f2) = true)
    (a3 : PySem.W.nsIn K mainGlobals "grow_class" = some (some (.ref f3))) (l3 : K.lookup f3 = some ⟨oc3, od3, .func (PySem.W.fnOf "grow_class" "grow_class" (defArgs s_grow_class) (defBody s_grow_class) (defScope s_grow_class) .none kV3 dc3 pm3 an3 cd3 ct3), sl3⟩) (c3 : PySem.W.codeIn K cd3 "grow_class" = true) (k3 : PySem.W.keepIn K (.ref f3) = true)
    (a4 : PySem.W.nsIn K mainGlobals "classes_of" = some (some (.ref f4))) (l4 : K.lookup f4 = some ⟨oc4, od4, .func (PySem.W.fnOf "classes_of" "classes_of" (defArgs s_classes_of) (defBody s_classes_of) (defScope s_classes_of) .none kV4 dc4 pm4 an4 cd4 ct4), sl4⟩) (c4 : PySem.W.codeIn K cd4 "classes_of" = true) (k4 : PySem.W.keepIn K (.ref f4) = true)
    (a5 : PySem.W.nsIn K mainGlobals "pieces" = some (some (.ref f5))) (l5 : K.lookup f5 = some ⟨oc5, od5, .func (PySem.W.fnOf "pieces" "pieces" (defArgs s_pieces) (defBody s_pieces) (defScope s_pieces) .none kV5 dc5 pm5 an5 cd5 ct5), sl5⟩) (c5 : PySem.W.codeIn K cd5 "pieces" = true) (k5 : PySem.W.keepIn K (.ref f5) = true)
    (a6 : PySem.W.nsIn K mainGlobals "_law_cell_at" = some (some (.ref f6))) (l6 : K.lookup f6 = some ⟨oc6, od6, .func (PySem.W.fnOf "_law_cell_at" "_law_cell_at" (defArgs s__law_cell_at) (defBody s__law_cell_at) (defScope s__law_cell_at) .none kV6 dc6 pm6 an6 cd6 ct6), sl6⟩) (c6 : PySem.W.codeIn K cd6 "_law_cell_at" = true) (k6 : PySem.W.keepIn K (.ref f6) = true)
    (a7 : PySem.W.nsIn K mainGlobals "_law_signed" = some (some (.ref f7))) (l7 : K.lookup f7 = some ⟨oc7, od7, .func (PySem.W.fnOf "_law_signed" "_law_signed" (defArgs s__law_signed) (defBody s__law_signed) (defScope s__law_signed) .none kV7 dc7 pm7 an7 cd7 ct7), sl7⟩) (c7 : PySem.W.codeIn K cd7 "_law_signed" = true) (k7 : PySem.W.keepIn K (.ref f7) = true)
    (a8 : PySem.W.nsIn K mainGlobals "_law_row" = some (some (.ref f8))) (l8 : K.lookup f8 = some ⟨oc8, od8, .func (PySem.W.fnOf "_law_row" "_law_row" (defArgs s__law_row) (defBody s__law_row) (defScope s__law_row) .none kV8 dc8 pm8 an8 cd8 ct8), sl8⟩) (c8 : PySem.W.codeIn K cd8 "_law_row" = true) (k8 : PySem.W.keepIn K (.ref f8) = true)
    (a9 : PySem.W.nsIn K mainGlobals "_law_picture" = some (some (.ref f9))) (l9 : K.lookup f9 = some ⟨oc9, od9, .func (PySem.W.fnOf "_law_picture" "_law_picture" (defArgs s__law_picture) (defBody s__law_picture) (defScope s__law_picture) .none kV9 dc9 pm9 an9 cd9 ct9), sl9⟩) (c9 : PySem.W.codeIn K cd9 "_law_picture" = true) (k9 : PySem.W.keepIn K (.ref f9) = true)
    (a10 : PySem.W.nsIn K mainGlobals "_law_stretches" = some (some (.ref f10))) (l10 : K.lookup f10 = some ⟨oc10, od10, .func (PySem.W.fnOf "_law_stretches" "_law_stretches" (defArgs s__law_stretches) (defBody s__law_stretches) (defScope s__law_stretches) .none kV10 dc10 pm10 an10 cd10 ct10), sl10⟩) (c10 : PySem.W.codeIn K cd10 "_law_stretches" = true) (k10 : PySem.W.keepIn K (.ref f10) = true)
    (a11 : PySem.W.nsIn K mainGlobals "_law_touch" = some (some (.ref f11))) (l11 : K.lookup f11 = some ⟨oc11, od11, .func (PySem.W.fnOf "_law_touch" "_law_touch" (defArgs s__law_touch) (defBody s__law_touch) (defScope s__law_touch) .none kV11 dc11 pm11 an11 cd11 ct11), sl11⟩) (c11 : PySem.W.codeIn K cd11 "_law_touch" = true) (k11 : PySem.W.keepIn K (.ref f11) = true)
    (a12 : PySem.W.nsIn K mainGlobals "_law_whole" = some (some (.ref f12))) (l12 : K.lookup f12 = some ⟨oc12, od12, .func (PySem.W.fnOf "_law_whole" "_law_whole" (defArgs s__law_whole) (defBody s__law_whole) (defScope s__law_whole) .none kV12 dc12 pm12 an12 cd12 ct12), sl12⟩) (c12 : PySem.W.codeIn K cd12 "_law_whole" = true) (k12 : PySem.W.keepIn K (.ref f12) = true)
    (a13 : PySem.W.nsIn K mainGlobals "_law_kinds" = some (some (.ref f13))) (l13 : K.lookup f13 = some ⟨oc13, od13, .func (PySem.W.fnOf "_law_kinds" "_law_kinds" (defArgs s__law_kinds) (defBody s__law_kinds) (defScope s__law_kinds) .none kV13 dc13 pm13 an13 cd13 ct13), sl13⟩) (c13 : PySem.W.codeIn K cd13 "_law_kinds" = true) (k13 : PySem.W.keepIn K (.ref f13) = true)
    (a14 : PySem.W.nsIn K mainGlobals "_law_walked" = some (some (.ref f14))) (l14 : K.lookup f14 = some ⟨oc14, od14, .func (PySem.W.fnOf "_law_walked" "_law_walked" (defArgs s__law_walked) (defBody s__law_walked) (defScope s__law_walked) .none kV14 dc14 pm14 an14 cd14 ct14), sl14⟩) (c14 : PySem.W.codeIn K cd14 "_law_walked" = true) (k14 : PySem.W.keepIn K (.ref f14) = true)
    (a15 : PySem.W.nsIn K mainGlobals "law" = some (some (.ref f15))) (l15 : K.lookup f15 = some ⟨oc15, od15, .func (PySem.W.fnOf "law" "law" (defArgs s_law) (defBody s_law) (defScope s_law) .none kV15 dc15 pm15 an15 cd15 ct15), sl15⟩) (c15 : PySem.W.codeIn K cd15 "law" = true) (k15 : PySem.W.keepIn K (.ref f15) = true)
    (z_abs : PySem.W.nsIn K mainGlobals "abs" = some none)
    (z_bool : PySem.W.nsIn K mainGlobals "bool" = some none)
    (z_int : PySem.W.nsIn K mainGlobals "int" = some none)
    (z_isinstance : PySem.W.nsIn K mainGlobals "isinstance" = some none)
    (z_len : PySem.W.nsIn K mainGlobals "len" = some none)
    (z_list : PySem.W.nsIn K mainGlobals "list" = some none)
    (z_min : PySem.W.nsIn K mainGlobals "min" = some none)
    (z_range : PySem.W.nsIn K mainGlobals "range" = some none)
    (z_sorted : PySem.W.nsIn K mainGlobals "sorted" = some none)
    (z_tuple : PySem.W.nsIn K mainGlobals "tuple" = some none) :
    ∃ fd : FuncData, (∀ (s : Shared) (v : Value), BindsTo s fd ⟨[v], []⟩ [("_law_script", v)]) ∧ ∀ base : Heap, K.In base → base.Ns mainGlobals mg → FnOk PySem.Challenge.rw_shapethin_k41_pieces_walked.prog w K mg base (L2.CX PySem.Challenge.rw_shapethin_k41_pieces_walked.prog w) 5 fa fd ["_law_script"] (spF ⟨K, (fun _ => none)⟩ 1 .sh g_law) := by
  have e := hfa.symm.trans (PySem.W.mg_of X G a15)
  cases e
  have m_abs := PySem.W.mg_none_of X G z_abs
  have m_bool := PySem.W.mg_none_of X G z_bool
  have m_int := PySem.W.mg_none_of X G z_int
  have m_isinstance := PySem.W.mg_none_of X G z_isinstance
  have m_len := PySem.W.mg_none_of X G z_len
  have m_list := PySem.W.mg_none_of X G z_list
  have m_min := PySem.W.mg_none_of X G z_min
  have m_range := PySem.W.mg_none_of X G z_range
  have m_sorted := PySem.W.mg_none_of X G z_sorted
  have m_tuple := PySem.W.mg_none_of X G z_tuple
  have F1 := fun_mk (st := s_stretches_of) l1 c1 k1
  have T1 : DefAt K mg "stretches_of" "stretches_of" s_stretches_of ["picture"] := ⟨_, _, F1, PySem.W.mg_of X G a1, F1.binds (ps := ["picture"]) fun _ _ _ _ _ _ us hl => match us, hl with | [_], _ => rfl⟩
  have F2 := fun_mk (st := s_stretches_touch) l2 c2 k2
  have T2 : DefAt K mg "stretches_touch" "stretches_touch" s_stretches_touch ["one", "other", "slack"] := ⟨_, _, F2, PySem.W.mg_of X G a2, F2.binds (ps := ["one", "other", "slack"]) fun _ _ _ _ _ _ us hl => match us, hl with | [_, _, _], _ => rfl⟩
  have F3 := fun_mk (st := s_grow_class) l3 c3 k3
  have T3 : DefAt K mg "grow_class" "grow_class" s_grow_class ["first", "left", "slack"] := ⟨_, _, F3, PySem.W.mg_of X G a3, F3.binds (ps := ["first", "left", "slack"]) fun _ _ _ _ _ _ us hl => match us, hl with | [_, _, _], _ => rfl⟩
  have F4 := fun_mk (st := s_classes_of) l4 c4 k4
  have T4 : DefAt K mg "classes_of" "classes_of" s_classes_of ["stretches", "slack"] := ⟨_, _, F4, PySem.W.mg_of X G a4, F4.binds (ps := ["stretches", "slack"]) fun _ _ _ _ _ _ us hl => match us, hl with | [_, _], _ => rfl⟩
  have F5 := fun_mk (st := s_pieces) l5 c5 k5
  have T5 : DefAt K mg "pieces" "pieces" s_pieces ["picture"] := ⟨_, _, F5, PySem.W.mg_of X G a5, F5.binds (ps := ["picture"]) fun _ _ _ _ _ _ us hl => match us, hl with | [_], _ => rfl⟩
  have F6 := fun_mk (st := s__law_cell_at) l6 c6 k6
  have T6 : DefAt K mg "_law_cell_at" "_law_cell_at" s__law_cell_at ["_law_script", "_law_k"] := ⟨_, _, F6, PySem.W.mg_of X G a6, F6.binds (ps := ["_law_script", "_law_k"]) fun _ _ _ _ _ _ us hl => match us, hl with | [_, _], _ => rfl⟩
  have F7 := fun_mk (st := s__law_signed) l7 c7 k7
  have T7 : DefAt K mg "_law_signed" "_law_signed" s__law_signed ["_law_cell", "_law_most"] := ⟨_, _, F7, PySem.W.mg_of X G a7, F7.binds (ps := ["_law_cell", "_law_most"]) fun _ _ _ _ _ _ us hl => match us, hl with | [_, _], _ => rfl⟩
  have F8 := fun_mk (st := s__law_row) l8 c8 k8
  have T8 : DefAt K mg "_law_row" "_law_row" s__law_row ["_law_bits", "_law_x", "_law_wide"] := ⟨_, _, F8, PySem.W.mg_of X G a8, F8.binds (ps := ["_law_bits", "_law_x", "_law_wide"]) fun _ _ _ _ _ _ us hl => match us, hl with | [_, _, _], _ => rfl⟩
  have F9 := fun_mk (st := s__law_picture) l9 c9 k9
  have T9 : DefAt K mg "_law_picture" "_law_picture" s__law_picture ["_law_script"] := ⟨_, _, F9, PySem.W.mg_of X G a9, F9.binds (ps := ["_law_script"]) fun _ _ _ _ _ _ us hl => match us, hl with | [_], _ => rfl⟩
  have F10 := fun_mk (st := s__law_stretches) l10 c10 k10
  have T10 : DefAt K mg "_law_stretches" "_law_stretches" s__law_stretches ["_law_picture_here"] := ⟨_, _, F10, PySem.W.mg_of X G a10, F10.binds (ps := ["_law_picture_here"]) fun _ _ _ _ _ _ us hl => match us, hl with | [_], _ => rfl⟩
  have F11 := fun_mk (st := s__law_touch) l11 c11 k11
  have T11 : DefAt K mg "_law_touch" "_law_touch" s__law_touch ["_law_one", "_law_other"] := ⟨_, _, F11, PySem.W.mg_of X G a11, F11.binds (ps := ["_law_one", "_law_other"]) fun _ _ _ _ _ _ us hl => match us, hl with | [_, _], _ => rfl⟩
  have F12 := fun_mk (st := s__law_whole) l12 c12 k12
  have T12 : DefAt K mg "_law_whole" "_law_whole" s__law_whole ["_law_found"] := ⟨_, _, F12, PySem.W.mg_of X G a12, F12.binds (ps := ["_law_found"]) fun _ _ _ _ _ _ us hl => match us, hl with | [_], _ => rfl⟩
  have F13 := fun_mk (st := s__law_kinds) l13 c13 k13
  have T13 : DefAt K mg "_law_kinds" "_law_kinds" s__law_kinds ["_law_member"] := ⟨_, _, F13, PySem.W.mg_of X G a13, F13.binds (ps := ["_law_member"]) fun _ _ _ _ _ _ us hl => match us, hl with | [_], _ => rfl⟩
  have F14 := fun_mk (st := s__law_walked) l14 c14 k14
  have T14 : DefAt K mg "_law_walked" "_law_walked" s__law_walked ["_law_piece"] := ⟨_, _, F14, PySem.W.mg_of X G a14, F14.binds (ps := ["_law_piece"]) fun _ _ _ _ _ _ us hl => match us, hl with | [_], _ => rfl⟩
  have F15 := fun_mk (st := s_law) l15 c15 k15
  refine ⟨PySem.W.fnOf "law" "law" (defArgs s_law) (defBody s_law) (defScope s_law) .none kV15 dc15 pm15 an15 cd15 ct15, fun s v => .of_eq rfl, fun base _ _ => ?_⟩
  have D_stretches_of := d_stretches_of (P := PySem.Challenge.rw_shapethin_k41_pieces_walked.prog) (w := w) (base := base) (ct := fun _ => none) T1  
  have D_stretches_touch := d_stretches_touch (P := PySem.Challenge.rw_shapethin_k41_pieces_walked.prog) (w := w) (base := base) (ct := fun _ => none) T2 m_abs 
  have D_grow_class := d_grow_class (P := PySem.Challenge.rw_shapethin_k41_pieces_walked.prog) (w := w) (base := base) (ct := fun _ => none) T3 m_len D_stretches_touch
  have D_classes_of := d_classes_of (P := PySem.Challenge.rw_shapethin_k41_pieces_walked.prog) (w := w) (base := base) (ct := fun _ => none) T4 m_len m_list D_grow_class
  have D_pieces := d_pieces (P := PySem.Challenge.rw_shapethin_k41_pieces_walked.prog) (w := w) (base := base) (ct := fun _ => none) T5  D_stretches_of D_classes_of
  have D__law_cell_at := d__law_cell_at (P := PySem.Challenge.rw_shapethin_k41_pieces_walked.prog) (w := w) (base := base) (ct := fun _ => none) T6 m_len 
  have D__law_signed := d__law_signed (P := PySem.Challenge.rw_shapethin_k41_pieces_walked.prog) (w := w) (base := base) (ct := fun _ => none) T7  
  have D__law_row := d__law_row (P := PySem.Challenge.rw_shapethin_k41_pieces_walked.prog) (w := w) (base := base) (ct := fun _ => none) T8 m_len m_range m_tuple 
  have D__law_picture := d__law_picture (P := PySem.Challenge.rw_shapethin_k41_pieces_walked.prog) (w := w) (base := base) (ct := fun _ => none) T9 m_len m_min m_range m_tuple D__law_cell_at D__law_signed D__law_row
  have D__law_stretches := d__law_stretches (P := PySem.Challenge.rw_shapethin_k41_pieces_walked.prog) (w := w) (base := base) (ct := fun _ => none) T10  
  have D__law_touch := d__law_touch (P := PySem.Challenge.rw_shapethin_k41_pieces_walked.prog) (w := w) (base := base) (ct := fun _ => none) T11  
  have D__law_whole := d__law_whole (P := PySem.Challenge.rw_shapethin_k41_pieces_walked.prog) (w := w) (base := base) (ct := fun _ => none) T12 m_bool m_int m_isinstance 
  have D__law_kinds := d__law_kinds (P := PySem.Challenge.rw_shapethin_k41_pieces_walked.prog) (w := w) (base := base) (ct := fun _ => none) T13 m_isinstance m_len m_tuple D__law_whole
  have D__law_walked := d__law_walked (P := PySem.Challenge.rw_shapethin_k41_pieces_walked.prog) (w := w) (base := base) (ct := fun _ => none) T14 m_isinstance m_len m_list m_range D__law_touch D__law_whole D__law_kinds
  exact d_law F15 m_isinstance m_list m_sorted D_pieces D__law_picture D__law_stretches D__law_walked
end
end P
namespace P
open PySem L2 FL
/-! rows: stretches of whole numbers -/
abbrev St2 := Int × Int
def lePr (a b : St2) : Bool := decide (a.1 < b.1 ∨ (a.1 = b.1 ∧ a.2 ≤ b.2))
theorem ordD_eP (a b : St2) : ordD (eP a) (eP b) = lePr a b := by
  have h := PySem.W.dataLe_ii (β := St2) (fun p => p.1) (fun p => p.2)
  have h2 := congrFun (congrFun h a) b
  exact h2
theorem lePr_trans (a b c : St2) (h1 : lePr a b = true) (h2 : lePr b c = true) : lePr a c = true := by
  simp only [lePr, decide_eq_true_eq] at *
  omega
theorem lePr_total (a b : St2) : (lePr a b || lePr b a) = true := by
  simp only [lePr, Bool.or_eq_true, decide_eq_true_eq] at *
  omega
theorem sortOk_eP (ps : List St2) : sortOk (ps.map eP) = true := by
  unfold sortOk
  rw [Bool.and_eq_true, Bool.and_eq_true]
  refine ⟨⟨?_, ?_⟩, ?_⟩
  · rw [List.all_eq_true]
    intro d hd
    obtain ⟨p, _, rfl⟩ := List.mem_map.mp hd
    rfl
  · rw [List.all_eq_true]
    intro d hd
    rw [List.all_eq_true]
    intro e he
    obtain ⟨p, _, rfl⟩ := List.mem_map.mp hd
    obtain ⟨q, _, rfl⟩ := List.mem_map.mp he
    rfl
  · rw [Bool.or_eq_true]
    left
    rw [List.all_eq_true]
    intro d hd
    obtain ⟨p, _, rfl⟩ := List.mem_map.mp hd
    rfl
theorem sortD_eP (ps : List St2) : sortD (.lst (ps.map eP)) = .ok (.lst ((ps.mergeSort lePr).map eP)) := by
  show (if sortOk (ps.map eP) = true then Res.ok (D.lst ((ps.map eP).mergeSort ordD)) else .no) = _
  rw [if_pos (sortOk_eP ps)]
  congr 2
  exact (List.map_mergeSort (fun a _ b _ => (ordD_eP a b).symm)).symm
def stepR : List St2 → St2 → List St2
  | [], p => [p]
  | l :: t, p => if p.1 ≤ l.2 + 1 then (l.1, max l.2 p.2) :: t else p :: l :: t
theorem stepR_hit {l p : St2} {t : List St2} (h : p.1 ≤ l.2 + 1) : stepR (l :: t) p = (l.1, max l.2 p.2) :: t := if_pos h
theorem stepR_miss {l p : St2} {t : List St2} (h : ¬ p.1 ≤ l.2 + 1) : stepR (l :: t) p = p :: l :: t := if_neg h
def okP (p : St2) : Bool := decide (p.1 ≤ p.2)
def rowOf (ps : List St2) : List St2 := (((ps.filter okP).mergeSort lePr).foldl stepR []).reverse
def IsRow (r : List St2) : Prop := r.Pairwise (fun a b => a.2 + 2 ≤ b.1) ∧ ∀ p ∈ r, p.1 ≤ p.2
def inR (r : List St2) (x : Int) : Prop := ∃ p ∈ r, p.1 ≤ x ∧ x ≤ p.2
theorem inR_nil (x : Int) : ¬ inR [] x := by simp [inR]
theorem inR_cons (p : St2) (r : List St2) (x : Int) : inR (p :: r) x ↔ (p.1 ≤ x ∧ x ≤ p.2) ∨ inR r x := by simp [inR]
theorem inR_append (r s : List St2) (x : Int) : inR (r ++ s) x ↔ inR r x ∨ inR s x := by
  simp only [inR, List.mem_append]
  constructor
  · rintro ⟨p, h | h, g⟩
    · exact .inl ⟨p, h, g⟩
    · exact .inr ⟨p, h, g⟩
  · rintro (⟨p, h, g⟩ | ⟨p, h, g⟩)
    · exact ⟨p, .inl h, g⟩
    · exact ⟨p, .inr h, g⟩
theorem inR_reverse (r : List St2) (x : Int) : inR r.reverse x ↔ inR r x := by simp [inR]
theorem inR_perm {r s : List St2} (h : r.Perm s) (x : Int) : inR r x ↔ inR s x := by
  simp only [inR]
  constructor
  · rintro ⟨p, a, g⟩
    exact ⟨p, h.mem_iff.mp a, g⟩
  · rintro ⟨p, a, g⟩
    exact ⟨p, h.mem_iff.mpr a, g⟩
/-- the same, with the last one ahead -/
def IsStk (s : List St2) : Prop := s.Pairwise (fun a b => b.2 + 2 ≤ a.1) ∧ ∀ p ∈ s, p.1 ≤ p.2
theorem fold_row : ∀ (ps s : List St2), IsStk s → ps.Pairwise (fun a b => a.1 ≤ b.1) → (∀ p ∈ ps, p.1 ≤ p.2) → (∀ a ∈ s, ∀ p ∈ ps, a.1 ≤ p.1) →
    IsStk (ps.foldl stepR s) ∧ ∀ x, inR (ps.foldl stepR s) x ↔ inR s x ∨ inR ps x
  | [], s, hs, _, _, _ => ⟨hs, fun x => by simp [inR]⟩
  | p :: ps, s, hs, hp, ho, hl => by
    have hp' := List.pairwise_cons.mp hp
    have key : IsStk (stepR s p) ∧ (∀ x, inR (stepR s p) x ↔ inR s x ∨ (p.1 ≤ x ∧ x ≤ p.2)) ∧ ∀ a ∈ stepR s p, ∀ q ∈ ps, a.1 ≤ q.1 := by
      cases s with
      | nil =>
        refine ⟨⟨List.pairwise_singleton _ _, fun q hq => ?_⟩, fun x => by simp [stepR, inR], fun a ha q hq => ?_⟩
        · rw [List.mem_singleton.mp hq]; exact ho p List.mem_cons_self
        · rw [List.mem_singleton.mp ha]; exact hp'.1 q hq
      | cons l t =>
        have h1 := hl l List.mem_cons_self p List.mem_cons_self
        have hs1 := List.pairwise_cons.mp hs.1
        have hlo := hs.2 l List.mem_cons_self
        have hpo := ho p List.mem_cons_self
        by_cases h : p.1 ≤ l.2 + 1
        · rw [stepR_hit h]
          refine ⟨⟨List.pairwise_cons.mpr ⟨fun b hb => hs1.1 b hb, hs1.2⟩, fun q hq => ?_⟩, fun x => ?_, fun a ha q hq => ?_⟩
          · rcases List.mem_cons.mp hq with rfl | hq
            · show l.1 ≤ max l.2 p.2
              omega
            · exact hs.2 q (List.mem_cons_of_mem _ hq)
          · rw [inR_cons, inR_cons]
            show (l.1 ≤ x ∧ x ≤ max l.2 p.2) ∨ _ ↔ _
            constructor
            · rintro (g | g)
              · by_cases z : x ≤ l.2
                · exact .inl (.inl ⟨g.1, z⟩)
                · exact .inr (by omega)
              · exact .inl (.inr g)
            · rintro ((g | g) | g)
              · exact .inl (by omega)
              · exact .inr g
              · exact .inl (by omega)
          · rcases List.mem_cons.mp ha with rfl | ha
            · exact hl l List.mem_cons_self q (List.mem_cons_of_mem _ hq)
            · exact hl a (List.mem_cons_of_mem _ ha) q (List.mem_cons_of_mem _ hq)
        · rw [stepR_miss h]
          refine ⟨⟨List.pairwise_cons.mpr ⟨fun b hb => ?_, hs.1⟩, fun q hq => ?_⟩, fun x => ?_, fun a ha q hq => ?_⟩
          · rcases List.mem_cons.mp hb with rfl | hb
            · omega
            · have := hs1.1 b hb
              omega
          · rcases List.mem_cons.mp hq with rfl | hq
            · exact hpo
            · exact hs.2 q hq
          · rw [inR_cons]
            exact Or.comm
          · rcases List.mem_cons.mp ha with rfl | ha
            · exact hp'.1 q hq
            · exact hl a ha q (List.mem_cons_of_mem _ hq)
    obtain ⟨k1, k2, k3⟩ := key
    have ih := fold_row ps (stepR s p) k1 hp'.2 (fun q hq => ho q (List.mem_cons_of_mem _ hq)) k3
    refine ⟨ih.1, fun x => ?_⟩
    rw [List.foldl_cons, ih.2 x, k2 x, inR_cons, or_assoc]
theorem IsStk.row {s : List St2} (h : IsStk s) : IsRow s.reverse := ⟨List.pairwise_reverse.mpr h.1, fun p hp => h.2 p (List.mem_reverse.mp hp)⟩
theorem sorted_lows (ps : List St2) : (ps.mergeSort lePr).Pairwise fun a b => a.1 ≤ b.1 := by
  refine (List.pairwise_mergeSort lePr_trans lePr_total ps).imp fun h => ?_
  simp only [lePr, decide_eq_true_eq] at h
  omega
theorem rowOf_row (ps : List St2) : IsRow (rowOf ps) := by
  have h := fold_row ((ps.filter okP).mergeSort lePr) [] ⟨.nil, fun _ h => by cases h⟩ (sorted_lows _) (fun p hp => ?_) fun a ha => by cases ha
  · exact h.1.row
  · have := (List.mem_filter.mp ((List.mergeSort_perm _ _).mem_iff.mp hp)).2
    exact of_decide_eq_true this
theorem rowOf_in (ps : List St2) (x : Int) : inR (rowOf ps) x ↔ inR ps x := by
  have h := fold_row ((ps.filter okP).mergeSort lePr) [] ⟨.nil, fun _ h => by cases h⟩ (sorted_lows _) (fun p hp => ?_) fun a ha => by cases ha
  · unfold rowOf
    rw [inR_reverse, h.2 x, inR_perm (List.mergeSort_perm _ _)]
    simp only [inR_nil, false_or]
    constructor
    · rintro ⟨p, hp, g⟩
      exact ⟨p, (List.mem_filter.mp hp).1, g⟩
    · rintro ⟨p, hp, g⟩
      exact ⟨p, List.mem_filter.mpr ⟨hp, decide_eq_true (by omega)⟩, g⟩
  · have := (List.mem_filter.mp ((List.mergeSort_perm _ _).mem_iff.mp hp)).2
    exact of_decide_eq_true this
theorem IsRow.tail {p : St2} {r : List St2} (h : IsRow (p :: r)) : IsRow r := ⟨(List.pairwise_cons.mp h.1).2, fun q hq => h.2 q (List.mem_cons_of_mem _ hq)⟩
theorem IsRow.above {p : St2} {r : List St2} (h : IsRow (p :: r)) {x : Int} (g : inR r x) : p.2 + 2 ≤ x := by
  obtain ⟨q, hq, g⟩ := g
  have := (List.pairwise_cons.mp h.1).1 q hq
  omega
/-- a row is told by its cells -/
theorem row_ext : ∀ {r s : List St2}, IsRow r → IsRow s → (∀ x, inR r x ↔ inR s x) → r = s
  | [], [], _, _, _ => rfl
  | [], b :: s, _, hs, h => absurd ((h b.1).mpr ((inR_cons _ _ _).mpr (.inl ⟨Int.le_refl _, hs.2 b List.mem_cons_self⟩))) (inR_nil _)
  | a :: r, [], hr, _, h => absurd ((h a.1).mp ((inR_cons _ _ _).mpr (.inl ⟨Int.le_refl _, hr.2 a List.mem_cons_self⟩))) (inR_nil _)
  | a :: r, b :: s, hr, hs, h => by
    have ha := hr.2 a List.mem_cons_self
    have hb := hs.2 b List.mem_cons_self
    have ar := fun x (g : inR r x) => hr.above g
    have bs := fun x (g : inR s x) => hs.above g
    have lo : ∀ x, inR (a :: r) x → a.1 ≤ x := fun x g => by
      rcases (inR_cons _ _ _).mp g with g | g
      · exact g.1
      · have := ar x g; omega
    have lo' : ∀ x, inR (b :: s) x → b.1 ≤ x := fun x g => by
      rcases (inR_cons _ _ _).mp g with g | g
      · exact g.1
      · have := bs x g; omega
    have i1 : inR (a :: r) a.1 := (inR_cons _ _ _).mpr (.inl ⟨Int.le_refl _, ha⟩)
    have i2 : inR (b :: s) b.1 := (inR_cons _ _ _).mpr (.inl ⟨Int.le_refl _, hb⟩)
    have i3 : inR (a :: r) a.2 := (inR_cons _ _ _).mpr (.inl ⟨ha, Int.le_refl _⟩)
    have i4 : inR (b :: s) b.2 := (inR_cons _ _ _).mpr (.inl ⟨hb, Int.le_refl _⟩)
    have e1 : a.1 = b.1 := Int.le_antisymm (lo _ ((h _).mpr i2)) (lo' _ ((h _).mp i1))
    have n1 : ¬ inR (a :: r) (a.2 + 1) := fun g => by
      rcases (inR_cons _ _ _).mp g with g | g
      · omega
      · have := ar _ g; omega
    have n2 : ¬ inR (b :: s) (b.2 + 1) := fun g => by
      rcases (inR_cons _ _ _).mp g with g | g
      · omega
      · have := bs _ g; omega
    have e2 : a.2 = b.2 := by
      rcases Int.lt_trichotomy a.2 b.2 with z | z | z
      · exact absurd ((h (a.2 + 1)).mpr ((inR_cons _ _ _).mpr (.inl (by omega)))) n1
      · exact z
      · exact absurd ((h (b.2 + 1)).mp ((inR_cons _ _ _).mpr (.inl (by omega)))) n2
    have e : a = b := Prod.ext e1 e2
    subst e
    congr 1
    refine row_ext hr.tail hs.tail fun x => ?_
    have hx := h x
    rw [inR_cons, inR_cons] at hx
    constructor
    · intro g
      rcases hx.mp (.inr g) with z | z
      · have := ar x g; omega
      · exact z
    · intro g
      rcases hx.mpr (.inr g) with z | z
      · have := bs x g; omega
      · exact z
theorem rowOf_id {r : List St2} (h : IsRow r) : rowOf r = r := row_ext (rowOf_row r) h (rowOf_in r)
def movR (d : Int) (r : List St2) : List St2 := r.map fun p => (p.1 + d, p.2 + d)
def sprR (l h : Int) (r : List St2) : List St2 := rowOf (r.map fun p => (p.1 + l, p.2 + h))
theorem movR_row {r : List St2} (d : Int) (h : IsRow r) : IsRow (movR d r) := by
  refine ⟨List.pairwise_map.mpr (h.1.imp fun g => ?_), fun p hp => ?_⟩
  · show _ + d + 2 ≤ _ + d
    omega
  · obtain ⟨q, hq, rfl⟩ := List.mem_map.mp hp
    have := h.2 q hq
    show q.1 + d ≤ q.2 + d
    omega
theorem movR_in (d : Int) (r : List St2) (x : Int) : inR (movR d r) x ↔ inR r (x - d) := by
  simp only [inR, movR, List.mem_map]
  constructor
  · rintro ⟨_, ⟨q, hq, rfl⟩, g⟩
    exact ⟨q, hq, by dsimp only at g; omega, by dsimp only at g; omega⟩
  · rintro ⟨q, hq, g⟩
    exact ⟨_, ⟨q, hq, rfl⟩, by dsimp only; omega, by dsimp only; omega⟩
/-- what a spread row holds -/
theorem sprR_in {r : List St2} {l h : Int} (hlh : l ≤ h) (ho : ∀ p ∈ r, p.1 ≤ p.2) (x : Int) : inR (sprR l h r) x ↔ ∃ d, l ≤ d ∧ d ≤ h ∧ inR r (x - d) := by
  unfold sprR
  rw [rowOf_in]
  constructor
  · rintro ⟨_, hp, g⟩
    obtain ⟨q, hq, rfl⟩ := List.mem_map.mp hp
    have := ho q hq
    dsimp only at g
    by_cases z : x - h ≤ q.1
    · exact ⟨x - q.1, by omega, by omega, q, hq, by omega, by omega⟩
    · exact ⟨h, by omega, by omega, q, hq, by omega, by omega⟩
  · rintro ⟨d, h1, h2, q, hq, g⟩
    exact ⟨_, List.mem_map.mpr ⟨q, hq, rfl⟩, by dsimp only; omega, by dsimp only; omega⟩
theorem sprR_row (l h : Int) (r : List St2) : IsRow (sprR l h r) := rowOf_row _
theorem sprR_sprR {r : List St2} {l h l2 h2 : Int} (hr : IsRow r) (a : l ≤ h) (b : l2 ≤ h2) : sprR l2 h2 (sprR l h r) = sprR (l + l2) (h + h2) r := by
  refine row_ext (sprR_row _ _ _) (sprR_row _ _ _) fun x => ?_
  rw [sprR_in b (sprR_row _ _ _).2, sprR_in (by omega) hr.2]
  constructor
  · rintro ⟨d, h1, h3, g⟩
    obtain ⟨e, h4, h5, g⟩ := (sprR_in a hr.2 _).mp g
    exact ⟨d + e, by omega, by omega, by rw [show x - (d + e) = x - d - e by omega]; exact g⟩
  · rintro ⟨d, h1, h3, g⟩
    have : ∃ e, l2 ≤ e ∧ e ≤ h2 ∧ l ≤ d - e ∧ d - e ≤ h := by
      by_cases z : d - l2 ≤ h
      · exact ⟨l2, by omega, by omega, by omega, by omega⟩
      · exact ⟨d - h, by omega, by omega, by omega, by omega⟩
    obtain ⟨e, k1, k2, k3, k4⟩ := this
    exact ⟨e, k1, k2, (sprR_in a hr.2 _).mpr ⟨d - e, k3, k4, by rw [show x - e - (d - e) = x - d by omega]; exact g⟩⟩
theorem sprR_0 {r : List St2} (hr : IsRow r) : sprR 0 0 r = r := by
  unfold sprR
  have : (r.map fun p => (p.1 + 0, p.2 + 0)) = r := by simp
  rw [this]
  exact rowOf_id hr
end P
namespace P
open PySem L2 FL
/-! rows: cut, count, shrink -/
def hasR (r : List St2) (x : Int) : Bool := r.any fun p => decide (p.1 ≤ x) && decide (x ≤ p.2)
theorem hasR_iff (r : List St2) (x : Int) : hasR r x = true ↔ inR r x := by
  simp [hasR, inR]
theorem hasR_eq {r : List St2} {x : Int} {c : Prop} [Decidable c] (h : inR r x ↔ c) : hasR r x = decide c := by
  rw [Bool.eq_iff_iff, hasR_iff, h, decide_eq_true_iff]
theorem rowOf_has (ps : List St2) (x : Int) : hasR (rowOf ps) x = hasR ps x := by rw [Bool.eq_iff_iff, hasR_iff, hasR_iff, rowOf_in]
def joinR (r s : List St2) : List St2 := rowOf (r ++ s)
def comR (r s : List St2) : List St2 := rowOf (r.flatMap fun p => s.map fun q => (max p.1 q.1, min p.2 q.2))
def lessGo (hi : Int) : Int → List St2 → List St2
  | lo, [] => [(lo, hi)]
  | lo, q :: t => if q.2 < lo ∨ hi < q.1 then lessGo hi lo t else (lo, q.1 - 1) :: lessGo hi (q.2 + 1) t
def lessR (r s : List St2) : List St2 := rowOf (r.flatMap fun p => lessGo p.2 p.1 s)
def eithR (r s : List St2) : List St2 := joinR (lessR r s) (lessR s r)
def shrR (l h : Int) (r : List St2) : List St2 := rowOf (r.map fun p => (p.1 - l, p.2 - h))
def cntR (r : List St2) : Int := (r.map fun p => p.2 - p.1 + 1).sum
theorem lessGo_len (hi : Int) : ∀ (s : List St2) (lo : Int), (lessGo hi lo s).length ≤ s.length + 1
  | [], lo => by simp [lessGo]
  | q :: t, lo => by
    unfold lessGo
    split
    · have := lessGo_len hi t lo
      rw [List.length_cons]
      omega
    · have := lessGo_len hi t (q.2 + 1)
      rw [List.length_cons, List.length_cons]
      omega
theorem lessGo_in (hi : Int) : ∀ (s : List St2) (lo : Int), IsRow s → ∀ x, inR (lessGo hi lo s) x ↔ (lo ≤ x ∧ x ≤ hi) ∧ ¬ inR s x
  | [], lo, _, x => by simp [lessGo, inR]
  | q :: t, lo, h, x => by
    have hq := h.2 q List.mem_cons_self
    unfold lessGo
    rw [inR_cons]
    have ab := fun (g : inR t x) => h.above g
    split
    · rename_i c
      rw [lessGo_in hi t lo h.tail x]
      constructor
      · rintro ⟨g, n⟩
        exact ⟨g, fun z => by rcases z with z | z; · omega
                              · exact n z⟩
      · rintro ⟨g, n⟩
        exact ⟨g, fun z => n (.inr z)⟩
    · rename_i c
      rw [inR_cons, lessGo_in hi t (q.2 + 1) h.tail x]
      constructor
      · rintro (g | ⟨g, n⟩)
        · refine ⟨by dsimp only at g; omega, fun z => ?_⟩
          rcases z with z | z
          · dsimp only at g; omega
          · have := ab z
            dsimp only at g; omega
        · refine ⟨by omega, fun z => ?_⟩
          rcases z with z | z
          · omega
          · exact n z
      · rintro ⟨g, n⟩
        by_cases k : x < q.1
        · exact .inl (by dsimp only; omega)
        · refine .inr ⟨?_, fun z => n (.inr z)⟩
          have : ¬ (q.1 ≤ x ∧ x ≤ q.2) := fun z => n (.inl z)
          omega
theorem joinR_in (r s : List St2) (x : Int) : inR (joinR r s) x ↔ inR r x ∨ inR s x := by
  unfold joinR
  rw [rowOf_in, inR_append]
theorem comR_in (r s : List St2) (x : Int) : inR (comR r s) x ↔ inR r x ∧ inR s x := by
  unfold comR
  rw [rowOf_in]
  constructor
  · rintro ⟨p, hp, g⟩
    obtain ⟨a, ha, hp⟩ := List.mem_flatMap.mp hp
    obtain ⟨b, hb, rfl⟩ := List.mem_map.mp hp
    dsimp only at g
    exact ⟨⟨a, ha, by omega, by omega⟩, b, hb, by omega, by omega⟩
  · rintro ⟨⟨a, ha, g⟩, b, hb, g2⟩
    exact ⟨_, List.mem_flatMap.mpr ⟨a, ha, List.mem_map.mpr ⟨b, hb, rfl⟩⟩, by dsimp only; omega, by dsimp only; omega⟩
theorem lessR_in {r s : List St2} (hs : IsRow s) (x : Int) : inR (lessR r s) x ↔ inR r x ∧ ¬ inR s x := by
  unfold lessR
  rw [rowOf_in]
  constructor
  · rintro ⟨p, hp, g⟩
    obtain ⟨a, ha, hp⟩ := List.mem_flatMap.mp hp
    obtain ⟨g1, g2⟩ := (lessGo_in a.2 s a.1 hs x).mp ⟨p, hp, g⟩
    exact ⟨⟨a, ha, g1⟩, g2⟩
  · rintro ⟨⟨a, ha, g⟩, n⟩
    obtain ⟨p, hp, g⟩ := (lessGo_in a.2 s a.1 hs x).mpr ⟨g, n⟩
    exact ⟨p, List.mem_flatMap.mpr ⟨a, ha, hp⟩, g⟩
theorem joinR_row (r s : List St2) : IsRow (joinR r s) := rowOf_row _
theorem comR_row (r s : List St2) : IsRow (comR r s) := rowOf_row _
theorem lessR_row (r s : List St2) : IsRow (lessR r s) := rowOf_row _
theorem eithR_row (r s : List St2) : IsRow (eithR r s) := rowOf_row _
theorem shrR_row (l h : Int) (r : List St2) : IsRow (shrR l h r) := rowOf_row _
theorem eithR_in {r s : List St2} (hr : IsRow r) (hs : IsRow s) (x : Int) : inR (eithR r s) x ↔ (inR r x ∧ ¬ inR s x) ∨ (inR s x ∧ ¬ inR r x) := by
  unfold eithR
  rw [joinR_in, lessR_in hs, lessR_in hr]
/-- a row shrunk: where the whole of the reach lies in it -/
theorem shrR_in {l h : Int} (hlh : l ≤ h) {r : List St2} (x : Int) : inR (shrR l h r) x ↔ ∃ p ∈ r, p.1 ≤ x + l ∧ x + h ≤ p.2 := by
  unfold shrR
  rw [rowOf_in]
  constructor
  · rintro ⟨p, hp, g⟩
    obtain ⟨a, ha, rfl⟩ := List.mem_map.mp hp
    dsimp only at g
    exact ⟨a, ha, by omega, by omega⟩
  · rintro ⟨a, ha, g⟩
    exact ⟨_, List.mem_map.mpr ⟨a, ha, rfl⟩, by dsimp only; omega, by dsimp only; omega⟩
theorem IsRow.nil : IsRow [] := ⟨.nil, fun _ h => by cases h⟩
theorem row_nil {r : List St2} (hr : IsRow r) (h : ∀ x, ¬ inR r x) : r = [] := row_ext hr IsRow.nil fun x => ⟨fun g => absurd g (h x), fun g => absurd g (inR_nil x)⟩
/-! counting: a row's count is told by its cells -/
theorem cntR_cons (p : St2) (r : List St2) : cntR (p :: r) = p.2 - p.1 + 1 + cntR r := by simp [cntR]
theorem cntR_nonneg : ∀ {r : List St2}, IsRow r → 0 ≤ cntR r
  | [], _ => by simp [cntR]
  | p :: r, h => by
    have h1 := cntR_nonneg h.tail
    have h2 := h.2 p List.mem_cons_self
    rw [cntR_cons]
    omega
/-- how many of a row's cells lie from a on to b -/
def cntIn (r : List St2) (a : Int) : Nat → Nat
  | 0 => 0
  | n + 1 => (if hasR r a = true then 1 else 0) + cntIn r (a + 1) n
theorem cntIn_congr {r s : List St2} : ∀ (n : Nat) (a : Int), (∀ x, a ≤ x → x < a + n → hasR r x = hasR s x) → cntIn r a n = cntIn s a n
  | 0, _, _ => rfl
  | n + 1, a, h => by
    unfold cntIn
    rw [h a (by omega) (by omega), cntIn_congr n (a + 1) fun x h1 h2 => h x (by omega) (by omega)]
theorem cntIn_none {r : List St2} : ∀ (n : Nat) (a : Int), (∀ x, a ≤ x → x < a + n → hasR r x = false) → cntIn r a n = 0
  | 0, _, _ => rfl
  | n + 1, a, h => by
    unfold cntIn
    rw [h a (by omega) (by omega), cntIn_none n (a + 1) fun x h1 h2 => h x (by omega) (by omega)]
    rfl
theorem cntIn_full {r : List St2} : ∀ (n : Nat) (a : Int), (∀ x, a ≤ x → x < a + n → hasR r x = true) → cntIn r a n = n
  | 0, _, _ => rfl
  | n + 1, a, h => by
    unfold cntIn
    rw [h a (by omega) (by omega), cntIn_full n (a + 1) fun x h1 h2 => h x (by omega) (by omega), if_pos rfl]
    omega
theorem cntIn_s (r : List St2) (a : Int) (n : Nat) : cntIn r a (n + 1) = (if hasR r a = true then 1 else 0) + cntIn r (a + 1) n := rfl
theorem cntIn_add (r : List St2) : ∀ (m n : Nat) (a : Int), cntIn r a (m + n) = cntIn r a m + cntIn r (a + m) n
  | 0, n, a => by simp [cntIn]
  | m + 1, n, a => by
    rw [show m + 1 + n = (m + n) + 1 by omega, cntIn_s, cntIn_s, cntIn_add r m n (a + 1), show a + ((m + 1 : Nat) : Int) = a + 1 + (m : Int) by omega]
    omega
theorem hasR_false {r : List St2} {x : Int} (h : ¬ inR r x) : hasR r x = false := by
  cases z : hasR r x with
  | false => rfl
  | true => exact absurd ((hasR_iff r x).mp z) h
theorem cntR_eq : ∀ {r : List St2}, IsRow r → ∀ (a : Int) (n : Nat), (∀ x, inR r x → a ≤ x ∧ x < a + n) → cntR r = cntIn r a n
  | [], _, a, n, _ => by rw [cntIn_none n a fun x _ _ => rfl]; rfl
  | p :: r, h, a, n, hb => by
    have hp := h.2 p List.mem_cons_self
    obtain ⟨b1, b2⟩ := hb p.1 ((inR_cons _ _ _).mpr (.inl ⟨Int.le_refl _, hp⟩))
    obtain ⟨b3, b4⟩ := hb p.2 ((inR_cons _ _ _).mpr (.inl ⟨hp, Int.le_refl _⟩))
    have e1 : n = ((p.1 - a).toNat + (p.2 - p.1 + 1).toNat) + (a + n - p.2 - 1).toNat := by omega
    rw [e1, cntIn_add, cntIn_add]
    have ab := fun {x : Int} (g : inR r x) => h.above g
    have z1 : cntIn (p :: r) a (p.1 - a).toNat = 0 := cntIn_none _ _ fun x h1 h2 => hasR_false fun g => by
      rcases (inR_cons _ _ _).mp g with g | g
      · omega
      · have := ab g; omega
    have z2 : cntIn (p :: r) (a + ((p.1 - a).toNat : Int)) (p.2 - p.1 + 1).toNat = (p.2 - p.1 + 1).toNat := cntIn_full _ _ fun x h1 h2 => (hasR_iff _ _).mpr ((inR_cons _ _ _).mpr (.inl (by omega)))
    have z3 : cntIn (p :: r) (a + (((p.1 - a).toNat + (p.2 - p.1 + 1).toNat : Nat) : Int)) (a + n - p.2 - 1).toNat = cntIn r (p.2 + 1) (a + n - p.2 - 1).toNat := by
      rw [show a + (((p.1 - a).toNat + (p.2 - p.1 + 1).toNat : Nat) : Int) = p.2 + 1 by omega]
      refine cntIn_congr _ _ fun x h1 h2 => ?_
      rw [Bool.eq_iff_iff, hasR_iff, hasR_iff, inR_cons]
      constructor
      · rintro (g | g)
        · omega
        · exact g
      · exact .inr
    have z4 := cntR_eq h.tail (p.2 + 1) (a + n - p.2 - 1).toNat fun x g => by
      have := ab g
      have := hb x ((inR_cons _ _ _).mpr (.inr g))
      omega
    rw [z1, z2, z3, cntR_cons, z4]
    omega
/-- a frame around any rows -/
theorem frame (r : List St2) : ∃ (a : Int) (n : Nat), ∀ x, inR r x → a ≤ x ∧ x < a + n := by
  induction r with
  | nil => exact ⟨0, 0, fun x g => absurd g (inR_nil x)⟩
  | cons p r ih =>
    obtain ⟨a, n, h⟩ := ih
    refine ⟨min a p.1, (max (a + n) (p.2 + 1) - min a p.1).toNat, fun x g => ?_⟩
    rcases (inR_cons _ _ _).mp g with g | g
    · omega
    · have := h x g
      omega
theorem cnt_add {r s u v : List St2} (hr : IsRow r) (hs : IsRow s) (hu : IsRow u) (hv : IsRow v)
    (h : ∀ x, (if hasR r x = true then 1 else 0) + (if hasR s x = true then 1 else 0) = (if hasR u x = true then 1 else 0) + (if hasR v x = true then (1 : Nat) else 0)) : cntR r + cntR s = cntR u + cntR v := by
  obtain ⟨a, n, hf⟩ := frame (r ++ s ++ u ++ v)
  rw [cntR_eq hr a n fun x g => hf x (by rw [inR_append, inR_append, inR_append]; exact .inl (.inl (.inl g))),
    cntR_eq hs a n fun x g => hf x (by rw [inR_append, inR_append, inR_append]; exact .inl (.inl (.inr g))),
    cntR_eq hu a n fun x g => hf x (by rw [inR_append, inR_append, inR_append]; exact .inl (.inr g)),
    cntR_eq hv a n fun x g => hf x (by rw [inR_append, inR_append, inR_append]; exact .inr g)]
  have : ∀ (n : Nat) (a : Int), cntIn r a n + cntIn s a n = cntIn u a n + cntIn v a n := by
    intro n
    induction n with
    | zero => intro a; rfl
    | succ n ih =>
      intro a
      rw [cntIn_s, cntIn_s, cntIn_s, cntIn_s]
      have := h a
      have := ih (a + 1)
      omega
  have := this n a
  omega
/-! gaps -/
theorem IsRow.next {r : List St2} (h : IsRow r) {p : St2} (hp : p ∈ r) : ¬ inR r (p.2 + 1) := by
  rintro ⟨q, hq, g⟩
  obtain ⟨i, hi, rfl⟩ := List.mem_iff_getElem.mp hp
  obtain ⟨j, hj, rfl⟩ := List.mem_iff_getElem.mp hq
  have pw := List.pairwise_iff_getElem.mp h.1
  rcases Nat.lt_trichotomy i j with z | z | z
  · have := pw i j hi hj z
    omega
  · subst z; omega
  · have := pw j i hj hi z
    have := h.2 _ (List.getElem_mem hi)
    omega
/-- a run of a row's cells lies in one stretch -/
theorem IsRow.run {r : List St2} (h : IsRow r) {a b : Int} (hab : a ≤ b) (g : ∀ y, a ≤ y → y ≤ b → inR r y) : ∃ p ∈ r, p.1 ≤ a ∧ b ≤ p.2 := by
  obtain ⟨p, hp, g1⟩ := g a (Int.le_refl a) hab
  refine ⟨p, hp, g1.1, ?_⟩
  by_cases z : b ≤ p.2
  · exact z
  · exact absurd (g (p.2 + 1) (by omega) (by omega)) (h.next hp)
def gapsR (r : List St2) : List St2 := (List.range (r.length - 1)).map fun i => ((r.getD i (0, 0)).2 + 1, (r.getD (i + 1) (0, 0)).1 - 1)
def gapsC : List St2 → List St2
  | a :: b :: t => (a.2 + 1, b.1 - 1) :: gapsC (b :: t)
  | _ => []
theorem gapsR_c : ∀ r : List St2, gapsR r = gapsC r
  | [] => rfl
  | [a] => rfl
  | a :: b :: t => by
    have ih := gapsR_c (b :: t)
    unfold gapsC
    rw [← ih]
    unfold gapsR
    rw [List.length_cons, List.length_cons, show t.length + 1 + 1 - 1 = (t.length + 1 - 1) + 1 by omega, List.range_succ_eq_map, List.map_cons, List.map_map]
    rfl
theorem gapsC_lo : ∀ (r : List St2) (a : St2), IsRow (a :: r) → ∀ p ∈ gapsC (a :: r), a.2 + 1 ≤ p.1
  | [], a, _, p, hp => by cases hp
  | b :: t, a, h, p, hp => by
    have h1 := (List.pairwise_cons.mp h.1).1 b List.mem_cons_self
    have h2 := h.2 b (List.mem_cons_of_mem _ List.mem_cons_self)
    unfold gapsC at hp
    rcases List.mem_cons.mp hp with rfl | hp
    · exact Int.le_refl _
    · have := gapsC_lo t b h.tail p hp
      omega
theorem gapsC_row : ∀ (r : List St2), IsRow r → IsRow (gapsC r)
  | [], _ => IsRow.nil
  | [a], _ => IsRow.nil
  | a :: b :: t, h => by
    have ih := gapsC_row (b :: t) h.tail
    have h1 := (List.pairwise_cons.mp h.1).1 b List.mem_cons_self
    have h2 := h.2 b (List.mem_cons_of_mem _ List.mem_cons_self)
    unfold gapsC
    refine ⟨List.pairwise_cons.mpr ⟨fun p hp => ?_, ih.1⟩, fun p hp => ?_⟩
    · have := gapsC_lo t b h.tail p hp
      show b.1 - 1 + 2 ≤ p.1
      omega
    · rcases List.mem_cons.mp hp with rfl | hp
      · show a.2 + 1 ≤ b.1 - 1
        omega
      · exact ih.2 p hp
theorem gapsC_all : ∀ (r : List St2) (a : St2), IsRow (a :: r) → ∀ x, inR (a :: r) x ∨ inR (gapsC (a :: r)) x ↔ a.1 ≤ x ∧ x ≤ ((a :: r).getLast (List.cons_ne_nil _ _)).2
  | [], a, _, x => by simp [gapsC, inR]
  | b :: t, a, h, x => by
    have ih := gapsC_all t b h.tail x
    have h1 := (List.pairwise_cons.mp h.1).1 b List.mem_cons_self
    have h2 := h.2 b (List.mem_cons_of_mem _ List.mem_cons_self)
    have h3 := h.2 a List.mem_cons_self
    have hl : b.2 ≤ ((b :: t).getLast (List.cons_ne_nil _ _)).2 := by
      have := (gapsC_all t b h.tail b.2).mp (.inl ((inR_cons _ _ _).mpr (.inl ⟨h2, Int.le_refl _⟩)))
      exact this.2
    unfold gapsC
    rw [inR_cons a, inR_cons (a.2 + 1, b.1 - 1), List.getLast_cons (List.cons_ne_nil _ _)]
    constructor
    · rintro ((g | g) | (g | g))
      · omega
      · have := ih.mp (.inl g); omega
      · omega
      · have := ih.mp (.inr g); omega
    · intro g
      by_cases z : x < b.1
      · by_cases y : x ≤ a.2
        · exact .inl (.inl (by omega))
        · exact .inr (.inl (by omega))
      · rcases ih.mpr (by omega) with k | k
        · exact .inl (.inr k)
        · exact .inr (.inr k)
theorem gaps_join {r : List St2} (h : IsRow r) (hn : r ≠ []) : joinR r (gapsR r) = [((r.head hn).1, (r.getLast hn).2)] := by
  cases r with
  | nil => exact absurd rfl hn
  | cons a t =>
    have hl : a.1 ≤ ((a :: t).getLast hn).2 := ((gapsC_all t a h a.1).mp (.inl ((inR_cons _ _ _).mpr (.inl ⟨Int.le_refl _, h.2 a List.mem_cons_self⟩)))).2
    refine row_ext (joinR_row _ _) ⟨List.pairwise_singleton _ _, fun p hp => ?_⟩ fun x => ?_
    · rw [List.mem_singleton.mp hp]
      exact hl
    · rw [joinR_in, gapsR_c, gapsC_all t a h x, inR_cons]
      simp [inR]
theorem gapsR_len (r : List St2) : (gapsR r).length = r.length - 1 := by simp [gapsR]
theorem stepR_le (s : List St2) (p : St2) : (stepR s p).length ≤ s.length + 1 := by
  cases s with
  | nil => simp [stepR]
  | cons l t =>
    simp only [stepR]
    split <;> simp
theorem foldR_le' : ∀ (ps s : List St2), (ps.foldl stepR s).length ≤ s.length + ps.length
  | [], s => Nat.le_refl _
  | p :: ps, s => by
    have h1 := foldR_le' ps (stepR s p)
    have h2 := stepR_le s p
    rw [List.foldl_cons, List.length_cons]
    omega
theorem foldR_le (ps : List St2) : (rowOf ps).length ≤ ps.length := by
  unfold rowOf
  rw [List.length_reverse]
  have h1 := foldR_le' ((ps.filter okP).mergeSort lePr) []
  rw [List.length_mergeSort] at h1
  have h2 := List.length_filter_le okP ps
  simp at h1
  omega
end P
namespace P
open PySem L2 FL
/-! pictures: rows by their y -/
abbrev Pic := List (Int × List St2)
abbrev Tri := Int × Int × Int
def eT (t : Int × List St2) : D := .tup [.int t.1, eR t.2]
def ePic (p : Pic) : D := .tup (p.map eT)
def eTr (t : Tri) : D := .tup [.int t.1, .int t.2.1, .int t.2.2]
@[simp] theorem bTup_eT (bs : List D → Ev0 → Res Ev0) (t : Int × List St2) (ρ : Ev0) : bTup 2 bs (eT t) ρ = bs [.int t.1, eR t.2] ρ := (rfl)
@[simp] theorem bTup_eTr (bs : List D → Ev0 → Res Ev0) (t : Tri) (ρ : Ev0) : bTup 3 bs (eTr t) ρ = bs [.int t.1, .int t.2.1, .int t.2.2] ρ := (rfl)
@[simp] theorem seqD_ePic (p : Pic) : seqD (ePic p) = .ok (p.map eT) := (rfl)
@[simp] theorem lenD_ePic (p : Pic) : lenD (ePic p) = .ok (.int p.length) := by simp [ePic]
@[simp] theorem ixD_eT0 (t : Int × List St2) : ixD (eT t) (.int 0) = .ok (.int t.1) := by simp [eT]
@[simp] theorem ixD_eT1 (t : Int × List St2) : ixD (eT t) (.int 1) = .ok (eR t.2) := by simp [eT]
@[simp] theorem lenD_eT (t : Int × List St2) : lenD (eT t) = .ok (.int 2) := (rfl)
@[simp] theorem isi_tuple_eT (t : Int × List St2) : isiG "tuple" (eT t) = .ok (.bl true) := (rfl)
@[simp] theorem isi_tuple_ePic (t : Pic) : isiG "tuple" (ePic t) = .ok (.bl true) := (rfl)
theorem eT_mk (y : Int) (r : List St2) : D.tup [.int y, eR r] = eT (y, r) := rfl
theorem eTr_mk (y l h : Int) : D.tup [.int y, .int l, .int h] = eTr (y, l, h) := rfl
theorem dat_eT (n : Nat) (t : Int × List St2) : Dat (n + 3) (eT t) := by
  intro x hx
  rcases List.mem_cons.mp hx with rfl | hx
  · exact trivial
  · rcases List.mem_cons.mp hx with rfl | hx
    · exact dat_eR n t.2
    · cases hx
theorem dat_ePic (n : Nat) (p : Pic) : Dat (n + 4) (ePic p) := by
  intro x hx
  obtain ⟨t, _, rfl⟩ := List.mem_map.mp hx
  exact dat_eT n t
@[simp] theorem eqD_ePic_same (neg : Bool) (p : Pic) : eqD neg (ePic p) (ePic p) = .ok (.bl (!neg)) := eqD_same neg (by decide : 4 ≤ 64) (dat_ePic 0 p)
theorem dat_eTr (n : Nat) (t : Tri) : Dat (n + 1) (eTr t) := by
  intro x hx
  rcases List.mem_cons.mp hx with rfl | hx
  · cases n <;> trivial
  · rcases List.mem_cons.mp hx with rfl | hx
    · cases n <;> trivial
    · rcases List.mem_cons.mp hx with rfl | hx
      · cases n <;> trivial
      · cases hx
theorem dat_lTr (n : Nat) (p : List Tri) : Dat (n + 2) (.lst (p.map eTr)) := by
  intro x hx
  obtain ⟨t, _, rfl⟩ := List.mem_map.mp hx
  exact dat_eTr n t
@[simp] theorem eqD_lTr_same (neg : Bool) (p : List Tri) : eqD neg (.lst (p.map eTr)) (.lst (p.map eTr)) = .ok (.bl (!neg)) := eqD_same neg (by decide : 2 ≤ 64) (dat_lTr 0 p)
/-! the order of (y, row) -/
def pyP (p : St2) : PyData := .tuple [.int p.1, .int p.2]
def pyR (r : List St2) : PyData := .tuple (r.map pyP)
theorem pyL_eP : ∀ r : List St2, pyL (r.map eP) = some (r.map pyP)
  | [] => rfl
  | p :: r => by
    rw [List.map_cons, List.map_cons]
    unfold pyL
    rw [pyL_eP r]
    rfl
theorem py_eR (r : List St2) : py (eR r) = some (pyR r) := by
  unfold eR py
  rw [pyL_eP]
  rfl
theorem py_eT (t : Int × List St2) : py (eT t) = some (.tuple [.int t.1, pyR t.2]) := by
  unfold eT py
  simp only [pyL, py_eR]
  rfl
theorem pyg_eT (t : Int × List St2) : pyg (eT t) = .tuple [.int t.1, pyR t.2] := by unfold pyg; rw [py_eT]; rfl
theorem alike_pyP : ∀ r s : List St2, PySem.W.alikeAll (r.map pyP) (s.map pyP) = true
  | [], s => by simp [PySem.W.alikeAll]
  | p :: r, [] => by simp [PySem.W.alikeAll]
  | p :: r, q :: s => by
    have := alike_pyP r s
    simp [PySem.W.alikeAll, PySem.W.alike, pyP, this]
theorem depth_pyP : ∀ r : List St2, PyData.depthAll (r.map pyP) ≤ 1
  | [] => by simp [PyData.depthAll]
  | p :: r => by
    have := depth_pyP r
    simp [PyData.depthAll, PyData.depth, pyP]
    omega
theorem alike_eT (s t : Int × List St2) : PySem.W.alike (pyg (eT s)) (pyg (eT t)) = true := by
  rw [pyg_eT, pyg_eT]
  simp [PySem.W.alike, PySem.W.alikeAll, pyR, alike_pyP]
theorem ordD_eT {s t : Int × List St2} (h : s.1 ≠ t.1) : ordD (eT s) (eT t) = decide (s.1 ≤ t.1) := by
  show (!PySem.W.dataLt (pyg (eT t)) (pyg (eT s))) = _
  rw [pyg_eT, pyg_eT, PySem.W.dataLt_pair (by simp [PySem.W.alike]) (by simp [PySem.W.alike, pyR, alike_pyP]), PySem.W.dataLt_int]
  simp only [PyData.eqv, beq_iff_eq]
  rw [if_neg (fun z => h z.symm), Bool.eq_iff_iff]
  simp
theorem ordD_refl (d : D) : ordD d d = true := by
  show (!PySem.W.dataLt (pyg d) (pyg d)) = true
  unfold PySem.W.dataLt
  rw [PyProof.Rows.lex_irrefl]
  rfl
theorem sortOk_eT (ps : Pic) : sortOk (ps.map eT) = true := by
  unfold sortOk
  rw [Bool.and_eq_true, Bool.and_eq_true]
  refine ⟨⟨?_, ?_⟩, ?_⟩
  · rw [List.all_eq_true]
    intro d hd
    obtain ⟨t, _, rfl⟩ := List.mem_map.mp hd
    rw [py_eT, pyg_eT]
    simp [PyData.depth, PyData.depthAll, pyR]
    have := depth_pyP t.2
    omega
  · rw [List.all_eq_true]
    intro d hd
    rw [List.all_eq_true]
    intro e he
    obtain ⟨s, _, rfl⟩ := List.mem_map.mp hd
    obtain ⟨t, _, rfl⟩ := List.mem_map.mp he
    exact alike_eT s t
  · rw [Bool.or_eq_true]
    left
    rw [List.all_eq_true]
    intro d hd
    obtain ⟨t, _, rfl⟩ := List.mem_map.mp hd
    rw [pyg_eT]
def leY (a b : Int × List St2) : Bool := decide (a.1 ≤ b.1)
theorem leY_trans (a b c : Int × List St2) (h1 : leY a b = true) (h2 : leY b c = true) : leY a c = true := by
  simp only [leY, decide_eq_true_eq] at *
  omega
theorem leY_total (a b : Int × List St2) : (leY a b || leY b a) = true := by
  simp only [leY, Bool.or_eq_true, decide_eq_true_eq] at *
  omega
def ysNodup (ps : Pic) : Prop := (ps.map (·.1)).Nodup
theorem ys_eq : ∀ {ps : Pic}, ysNodup ps → ∀ a ∈ ps, ∀ b ∈ ps, a.1 = b.1 → a = b
  | p :: ps, h, a, ha, b, hb, e => by
    have h := List.nodup_cons.mp h
    rcases List.mem_cons.mp ha with e1 | h1
    · rcases List.mem_cons.mp hb with e2 | h2
      · rw [e1, e2]
      · exact absurd (List.mem_map.mpr ⟨b, h2, by rw [← e, e1]⟩) h.1
    · rcases List.mem_cons.mp hb with e2 | h2
      · exact absurd (List.mem_map.mpr ⟨a, h1, by rw [e, e2]⟩) h.1
      · exact ys_eq (ps := ps) h.2 a h1 b h2 e
theorem sortD_eT {ps : Pic} (h : ysNodup ps) : sortD (.lst (ps.map eT)) = .ok (.lst ((ps.mergeSort leY).map eT)) := by
  show (if sortOk (ps.map eT) = true then Res.ok (D.lst ((ps.map eT).mergeSort ordD)) else .no) = _
  rw [if_pos (sortOk_eT ps)]
  congr 2
  refine (List.map_mergeSort fun a ha b hb => ?_).symm
  by_cases e : a.1 = b.1
  · rw [ys_eq h a ha b hb e, ordD_refl]
    simp [leY]
  · rw [ordD_eT e]
    rfl
/-! cells -/
def inP (p : Pic) (x y : Int) : Prop := ∃ t ∈ p, t.1 = y ∧ inR t.2 x
def IsPic (p : Pic) : Prop := p.Pairwise (fun a b => a.1 < b.1) ∧ ∀ t ∈ p, IsRow t.2 ∧ t.2 ≠ []
theorem inP_nil (x y : Int) : ¬ inP [] x y := by simp [inP]
theorem inP_cons (t : Int × List St2) (p : Pic) (x y : Int) : inP (t :: p) x y ↔ (t.1 = y ∧ inR t.2 x) ∨ inP p x y := by simp [inP]
theorem row_cell {r : List St2} (h : IsRow r) (hn : r ≠ []) : ∃ x, inR r x := by
  cases r with
  | nil => exact absurd rfl hn
  | cons p r => exact ⟨p.1, p, List.mem_cons_self, Int.le_refl _, h.2 p List.mem_cons_self⟩
theorem IsPic.tail {t : Int × List St2} {p : Pic} (h : IsPic (t :: p)) : IsPic p := ⟨(List.pairwise_cons.mp h.1).2, fun s hs => h.2 s (List.mem_cons_of_mem _ hs)⟩
theorem IsPic.nil : IsPic [] := ⟨.nil, fun _ h => by cases h⟩
theorem IsPic.above {t : Int × List St2} {p : Pic} (h : IsPic (t :: p)) {x y : Int} (g : inP p x y) : t.1 < y := by
  obtain ⟨s, hs, rfl, _⟩ := g
  exact (List.pairwise_cons.mp h.1).1 s hs
/-- a picture is told by its cells -/
theorem pic_ext : ∀ {p q : Pic}, IsPic p → IsPic q → (∀ x y, inP p x y ↔ inP q x y) → p = q
  | [], [], _, _, _ => rfl
  | [], t :: q, _, hq, h => by
    obtain ⟨x, hx⟩ := row_cell (hq.2 t List.mem_cons_self).1 (hq.2 t List.mem_cons_self).2
    exact absurd ((h x t.1).mpr ((inP_cons _ _ _ _).mpr (.inl ⟨rfl, hx⟩))) (inP_nil _ _)
  | t :: p, [], hp, _, h => by
    obtain ⟨x, hx⟩ := row_cell (hp.2 t List.mem_cons_self).1 (hp.2 t List.mem_cons_self).2
    exact absurd ((h x t.1).mp ((inP_cons _ _ _ _).mpr (.inl ⟨rfl, hx⟩))) (inP_nil _ _)
  | s :: p, t :: q, hp, hq, h => by
    obtain ⟨rs, ns⟩ := hp.2 s List.mem_cons_self
    obtain ⟨rt, nt⟩ := hq.2 t List.mem_cons_self
    obtain ⟨xs, hxs⟩ := row_cell rs ns
    obtain ⟨xt, hxt⟩ := row_cell rt nt
    have e1 : s.1 = t.1 := by
      have a := (h xs s.1).mp ((inP_cons _ _ _ _).mpr (.inl ⟨rfl, hxs⟩))
      have b := (h xt t.1).mpr ((inP_cons _ _ _ _).mpr (.inl ⟨rfl, hxt⟩))
      rcases (inP_cons _ _ _ _).mp a with ⟨z, _⟩ | a
      · exact z.symm
      · rcases (inP_cons _ _ _ _).mp b with ⟨z, _⟩ | b
        · exact z
        · have := hq.above a
          have := hp.above b
          omega
    have e2 : s.2 = t.2 := row_ext rs rt fun x => by
      have hx := h x s.1
      rw [inP_cons, inP_cons] at hx
      constructor
      · intro g
        rcases hx.mp (.inl ⟨rfl, g⟩) with ⟨_, z⟩ | z
        · exact z
        · have := hq.above z; omega
      · intro g
        rcases hx.mpr (.inl ⟨e1.symm, g⟩) with ⟨_, z⟩ | z
        · exact z
        · have := hp.above z; omega
    have e : s = t := Prod.ext e1 e2
    subst e
    congr 1
    refine pic_ext hp.tail hq.tail fun x y => ?_
    have hx := h x y
    rw [inP_cons, inP_cons] at hx
    constructor
    · intro g
      rcases hx.mp (.inr g) with ⟨z, _⟩ | z
      · have := hp.above g; omega
      · exact z
    · intro g
      rcases hx.mpr (.inr g) with ⟨z, _⟩ | z
      · have := hq.above g; omega
      · exact z
def picRows (rows : Pic) : Pic := (rows.filter fun t => decide (0 < t.2.length)).mergeSort leY
theorem inP_perm {p q : Pic} (h : p.Perm q) (x y : Int) : inP p x y ↔ inP q x y := by
  simp only [inP]
  constructor
  · rintro ⟨t, a, g⟩
    exact ⟨t, h.mem_iff.mp a, g⟩
  · rintro ⟨t, a, g⟩
    exact ⟨t, h.mem_iff.mpr a, g⟩
theorem picRows_in (rows : Pic) (x y : Int) : inP (picRows rows) x y ↔ inP rows x y := by
  unfold picRows
  rw [inP_perm (List.mergeSort_perm _ _)]
  constructor
  · rintro ⟨t, ht, g⟩
    exact ⟨t, (List.mem_filter.mp ht).1, g⟩
  · rintro ⟨t, ht, e, g⟩
    refine ⟨t, List.mem_filter.mpr ⟨ht, decide_eq_true ?_⟩, e, g⟩
    cases z : t.2 with
    | nil => rw [z] at g; exact absurd g (inR_nil x)
    | cons a r => simp
theorem picRows_pic {rows : Pic} (hn : ysNodup rows) (hr : ∀ t ∈ rows, IsRow t.2) : IsPic (picRows rows) := by
  have pm := List.mergeSort_perm (rows.filter fun t => decide (0 < t.2.length)) leY
  have sub : ysNodup (picRows rows) := by
    have h1 : ((rows.filter fun t => decide (0 < t.2.length)).map (·.1)).Nodup := (List.Sublist.map _ List.filter_sublist).nodup hn
    exact (pm.map (·.1)).nodup_iff.mpr h1
  refine ⟨?_, fun t ht => ?_⟩
  · have h1 := List.pairwise_mergeSort leY_trans leY_total (rows.filter fun t => decide (0 < t.2.length))
    have h2 : (picRows rows).Pairwise fun a b => a.1 ≠ b.1 := List.pairwise_map.mp sub
    refine (h1.and h2).imp fun h => ?_
    have := of_decide_eq_true h.1
    have := h.2
    omega
  · have hm := List.mem_filter.mp (pm.mem_iff.mp ht)
    refine ⟨hr t hm.1, fun z => ?_⟩
    have := of_decide_eq_true hm.2
    rw [z] at this
    simp at this
/-! stretches grouped by y -/
def grpT (y : Int) (p : St2) : Pic → Pic
  | [] => [(y, [p])]
  | (y', ps) :: r => if y' = y then (y', ps ++ [p]) :: r else (y', ps) :: grpT y p r
def groups (ts : List Tri) : Pic := ts.foldl (fun g t => grpT t.1 t.2 g) []
theorem grpT_ys (y : Int) (p : St2) : ∀ g : Pic, (grpT y p g).map (·.1) = if y ∈ g.map (·.1) then g.map (·.1) else g.map (·.1) ++ [y]
  | [] => by simp [grpT]
  | (y', ps) :: r => by
    unfold grpT
    by_cases e : y' = y
    · simp [e]
    · rw [if_neg e, List.map_cons, List.map_cons, grpT_ys y p r]
      have e' : ¬ y = y' := fun z => e z.symm
      by_cases m : y ∈ r.map (·.1)
      · rw [if_pos m, if_pos (List.mem_cons_of_mem _ m)]
      · rw [if_neg m, if_neg (fun z => by rcases List.mem_cons.mp z with z | z; exact e' z; exact m z)]
        rfl
theorem grpT_nodup {y : Int} {p : St2} {g : Pic} (h : ysNodup g) : ysNodup (grpT y p g) := by
  unfold ysNodup
  rw [grpT_ys]
  split
  · exact h
  · rename_i m
    rw [List.nodup_append]
    refine ⟨h, by simp, fun a ha b hb => ?_⟩
    rw [List.mem_singleton.mp hb]
    exact fun z => m (z ▸ ha)
theorem grpT_in (y0 : Int) (p : St2) (x y : Int) : ∀ g : Pic, inP (grpT y0 p g) x y ↔ inP g x y ∨ (y0 = y ∧ p.1 ≤ x ∧ x ≤ p.2)
  | [] => by
    unfold grpT
    rw [inP_cons]
    simp only [inP_nil, or_false, false_or, inR, List.mem_singleton, exists_eq_left]
  | (y', ps) :: r => by
    unfold grpT
    by_cases e : y' = y0
    · rw [if_pos e, inP_cons, inP_cons]
      dsimp only
      rw [inR_append, e]
      simp only [inR, List.mem_singleton, exists_eq_left]
      constructor
      · rintro (⟨a, b | b⟩ | b)
        · exact .inl (.inl ⟨a, b⟩)
        · exact .inr ⟨a, b⟩
        · exact .inl (.inr b)
      · rintro ((⟨a, b⟩ | b) | ⟨a, b⟩)
        · exact .inl ⟨a, .inl b⟩
        · exact .inr b
        · exact .inl ⟨a, .inr b⟩
    · rw [if_neg e, inP_cons, inP_cons, grpT_in y0 p x y r, or_assoc]
def inT (ts : List Tri) (x y : Int) : Prop := ∃ t ∈ ts, t.1 = y ∧ t.2.1 ≤ x ∧ x ≤ t.2.2
theorem groups_all : ∀ (ts : List Tri) (g : Pic), ysNodup g → ysNodup (ts.foldl (fun g t => grpT t.1 t.2 g) g) ∧ ∀ x y, inP (ts.foldl (fun g t => grpT t.1 t.2 g) g) x y ↔ inP g x y ∨ inT ts x y
  | [], g, h => ⟨h, fun x y => by simp [inT]⟩
  | t :: ts, g, h => by
    obtain ⟨h1, h2⟩ := groups_all ts (grpT t.1 t.2 g) (grpT_nodup h)
    refine ⟨h1, fun x y => ?_⟩
    rw [List.foldl_cons, h2, grpT_in, or_assoc]
    have : inT (t :: ts) x y ↔ (t.1 = y ∧ t.2.1 ≤ x ∧ x ≤ t.2.2) ∨ inT ts x y := by simp [inT]
    rw [this]
theorem grpT_len (y : Int) (p : St2) : ∀ g : Pic, (grpT y p g).length ≤ g.length + 1
  | [] => by simp [grpT]
  | (y', ps) :: r => by
    unfold grpT
    have := grpT_len y p r
    split
    · simp
    · rw [List.length_cons, List.length_cons]; omega
theorem grpT_sub (y : Int) (p : St2) (n : Nat) : ∀ g : Pic, (∀ t ∈ g, t.2.length ≤ n) → ∀ t ∈ grpT y p g, t.2.length ≤ n + 1
  | [], _, t, ht => by
    have : t = (y, [p]) := by simpa [grpT] using ht
    rw [this]; simp
  | (y', ps) :: r, h, t, ht => by
    unfold grpT at ht
    split at ht
    · rcases List.mem_cons.mp ht with rfl | ht
      · have := h (y', ps) List.mem_cons_self
        simpa using this
      · have := h t (List.mem_cons_of_mem _ ht); omega
    · rcases List.mem_cons.mp ht with rfl | ht
      · have := h (y', ps) List.mem_cons_self
        exact Nat.le_succ_of_le this
      · exact grpT_sub y p n r (fun t ht => h t (List.mem_cons_of_mem _ ht)) t ht
theorem groups_len : ∀ (ts : List Tri) (g : Pic) (n : Nat), g.length ≤ n → (∀ t ∈ g, t.2.length ≤ n) → (ts.foldl (fun g t => grpT t.1 t.2 g) g).length ≤ n + ts.length ∧ ∀ t ∈ ts.foldl (fun g t => grpT t.1 t.2 g) g, t.2.length ≤ n + ts.length
  | [], g, n, h1, h2 => ⟨h1, h2⟩
  | t :: ts, g, n, h1, h2 => by
    have a := grpT_len t.1 t.2 g
    have := groups_len ts (grpT t.1 t.2 g) (n + 1) (by omega) (grpT_sub t.1 t.2 n g h2)
    rw [List.foldl_cons, List.length_cons, show n + (ts.length + 1) = n + 1 + ts.length by omega]
    exact this
def picOf (ts : List Tri) : Pic := picRows ((groups ts).map fun g => (g.1, rowOf g.2))
theorem picOf_ys (ts : List Tri) : ysNodup ((groups ts).map fun g => (g.1, rowOf g.2)) := by
  have := (groups_all ts [] List.nodup_nil).1
  unfold ysNodup at this ⊢
  rw [List.map_map]
  exact this
theorem picOf_pic (ts : List Tri) : IsPic (picOf ts) := picRows_pic (picOf_ys ts) fun t ht => by
  obtain ⟨g, _, rfl⟩ := List.mem_map.mp ht
  exact rowOf_row _
theorem picOf_in (ts : List Tri) (x y : Int) : inP (picOf ts) x y ↔ inT ts x y := by
  unfold picOf
  rw [picRows_in]
  have h2 := (groups_all ts [] List.nodup_nil).2 x y
  constructor
  · rintro ⟨t, ht, e, g⟩
    obtain ⟨u, hu, rfl⟩ := List.mem_map.mp ht
    have : inP (groups ts) x y := ⟨u, hu, e, (rowOf_in _ _).mp g⟩
    exact (h2.mp this).resolve_left (inP_nil _ _)
  · intro g
    obtain ⟨u, hu, e, g⟩ := h2.mpr (.inr g)
    exact ⟨_, List.mem_map.mpr ⟨u, hu, rfl⟩, e, (rowOf_in _ _).mpr g⟩
theorem picOf_id {p : Pic} (h : IsPic p) {ts : List Tri} (e : ∀ x y, inT ts x y ↔ inP p x y) : picOf ts = p := pic_ext (picOf_pic ts) h fun x y => (picOf_in ts x y).trans (e x y)
/-- the stretches of a picture -/
def strOf (p : Pic) : List Tri := p.flatMap fun t => t.2.map fun s => (t.1, s.1, s.2)
theorem strOf_in (p : Pic) (x y : Int) : inT (strOf p) x y ↔ inP p x y := by
  constructor
  · rintro ⟨t, ht, e, g⟩
    obtain ⟨u, hu, ht⟩ := List.mem_flatMap.mp ht
    obtain ⟨s, hs, rfl⟩ := List.mem_map.mp ht
    exact ⟨u, hu, e, s, hs, g⟩
  · rintro ⟨u, hu, e, s, hs, g⟩
    exact ⟨_, List.mem_flatMap.mpr ⟨u, hu, List.mem_map.mpr ⟨s, hs, rfl⟩⟩, e, g⟩
def hasP (p : Pic) (x y : Int) : Bool := match p.find? fun t => decide (t.1 = y) with
  | some t => hasR t.2 x
  | none => false
theorem hasP_iff {p : Pic} (h : IsPic p) (x y : Int) : hasP p x y = true ↔ inP p x y := by
  unfold hasP
  cases z : p.find? fun t => decide (t.1 = y) with
  | none =>
    simp only [Bool.false_eq_true, false_iff]
    rintro ⟨t, ht, e, _⟩
    have := List.find?_eq_none.mp z t ht
    simp [e] at this
  | some t =>
    have m := List.mem_of_find?_eq_some z
    have e : t.1 = y := by simpa using List.find?_some z
    show hasR t.2 x = true ↔ _
    rw [hasR_iff]
    constructor
    · exact fun g => ⟨t, m, e, g⟩
    · rintro ⟨u, hu, eu, g⟩
      have hn : ysNodup p := List.pairwise_map.mpr (h.1.imp fun w => by omega)
      rw [ys_eq hn t m u hu (e.trans eu.symm)]
      exact g
/-! the loop that groups -/
theorem forG_run {α : Type} {b : D → Ev0 → Res Ev0} {gy gv : Ev0 → Res D} (enc : α → D) (R : Ev0 → Prop) (ky : α → Int) (vv : α → D) : ∀ (xs : List α) (ρ : Ev0) (ds : List (Key × D)),
    (∀ x ∈ xs, ∀ ρ, R ρ → ∃ ρ1, b (enc x) ρ = .ok ρ1 ∧ gy ρ1 = .ok (.int (ky x)) ∧ gv ρ1 = .ok (vv x) ∧ R ρ1) → R ρ →
    ∃ ρ', forG b gy gv (xs.map enc) ρ ds = some (ρ', xs.foldl (fun ds x => grp (.inl (ky x)) (vv x) ds) ds) ∧ R ρ'
  | [], ρ, ds, _, r => ⟨ρ, rfl, r⟩
  | x :: xs, ρ, ds, h, r => by
    obtain ⟨ρ1, h1, h2, h3, h4⟩ := h x List.mem_cons_self ρ r
    obtain ⟨ρ', h5, h6⟩ := forG_run enc R ky vv xs ρ1 (grp (.inl (ky x)) (vv x) ds) (fun y hy => h y (List.mem_cons_of_mem _ hy)) h4
    refine ⟨ρ', ?_, h6⟩
    rw [List.map_cons]
    unfold forG
    rw [h1]
    dsimp only
    rw [h2]
    dsimp only
    rw [h3]
    exact h5
def encG (g : Int × List St2) : Key × D := (.inl g.1, .lst (g.2.map eP))
theorem grp_encG (y : Int) (p : St2) : ∀ g : Pic, grp (.inl y) (eP p) (g.map encG) = (grpT y p g).map encG
  | [] => rfl
  | (y', ps) :: r => by
    rw [List.map_cons]
    show grp (.inl y) (eP p) ((.inl y', .lst (ps.map eP)) :: r.map encG) = _
    unfold grp grpT
    by_cases e : y' = y
    · rw [if_pos (congrArg Sum.inl e), if_pos e]
      simp [encG]
    · rw [if_neg (fun z => e (Sum.inl.inj z)), if_neg e, grp_encG y p r]
      rfl
theorem grp_fold : ∀ (ts : List Tri) (g : Pic), ts.foldl (fun ds t => grp (.inl t.1) (eP t.2) ds) (g.map encG) = (ts.foldl (fun g t => grpT t.1 t.2 g) g).map encG
  | [], g => rfl
  | t :: ts, g => by rw [List.foldl_cons, List.foldl_cons, grp_encG, grp_fold ts]
/-! more of triples -/
def hasT (ts : List Tri) (x y : Int) : Bool := ts.any fun t => decide (t.1 = y) && (decide (t.2.1 ≤ x) && decide (x ≤ t.2.2))
theorem hasT_iff (ts : List Tri) (x y : Int) : hasT ts x y = true ↔ inT ts x y := by simp [hasT, inT]
theorem hasT_false {ts : List Tri} {x y : Int} (h : ¬ inT ts x y) : hasT ts x y = false := by
  cases z : hasT ts x y with
  | false => rfl
  | true => exact absurd ((hasT_iff ts x y).mp z) h
theorem hasP_hasT {p : Pic} (h : IsPic p) {ts : List Tri} (e : ∀ x y, inP p x y ↔ inT ts x y) (x y : Int) : hasP p x y = hasT ts x y := by
  rw [Bool.eq_iff_iff, hasP_iff h, hasT_iff, e]
theorem inT_reverse (ts : List Tri) (x y : Int) : inT ts.reverse x y ↔ inT ts x y := by simp [inT]
theorem picRows_len (rows : Pic) : (picRows rows).length ≤ rows.length := by
  unfold picRows
  rw [List.length_mergeSort]
  exact List.length_filter_le _ _
theorem picOf_len (ts : List Tri) : (picOf ts).length ≤ ts.length := by
  have h := (groups_len ts [] 0 (Nat.zero_le _) (fun t h => by cases h)).1
  have h2 := picRows_len ((groups ts).map fun g => (g.1, rowOf g.2))
  rw [List.length_map] at h2
  unfold picOf
  unfold groups at h2 ⊢
  omega
theorem picOf_row (ts : List Tri) : ∀ t ∈ picOf ts, t.2.length ≤ ts.length := fun t ht => by
  have h := (groups_len ts [] 0 (Nat.zero_le _) (fun t h => by cases h)).2
  have hm := (List.mem_filter.mp ((List.mergeSort_perm _ _).mem_iff.mp ht)).1
  obtain ⟨g, hg, rfl⟩ := List.mem_map.mp hm
  have := h g hg
  have := foldR_le g.2
  show (rowOf g.2).length ≤ _
  omega
theorem strOf_len {p : Pic} {n : Nat} (h : ∀ t ∈ p, t.2.length ≤ n) : (strOf p).length ≤ p.length * n := by
  induction p with
  | nil => simp [strOf]
  | cons t p ih =>
    have h1 := h t List.mem_cons_self
    have h2 := ih fun s hs => h s (List.mem_cons_of_mem _ hs)
    have : strOf (t :: p) = (t.2.map fun s => (t.1, s.1, s.2)) ++ strOf p := rfl
    rw [this, List.length_append, List.length_map, List.length_cons, Nat.succ_mul]
    omega
theorem cutX_mid {α : Type} (a b c : List α) : cutX (a ++ (b ++ c)) (some (a.length : Int)) (some ((a.length : Int) + (b.length : Int))) = b := by
  unfold cutX
  rw [show (a.length : Int) + (b.length : Int) = ((a.length + b.length : Nat) : Int) by omega, HT.sIx_nat, HT.sIx_nat]
  have h1 : min a.length (a ++ (b ++ c)).length = a.length := by simp
  have h2 : min (a.length + b.length) (a ++ (b ++ c)).length = a.length + b.length := by rw [List.length_append, List.length_append]; omega
  rw [h1, h2, List.drop_left, Nat.add_sub_cancel_left, List.take_left]
theorem row_of_pic {p : Pic} (h : IsPic p) {t : Int × List St2} (ht : t ∈ p) (x : Int) : inP p x t.1 ↔ inR t.2 x := by
  have hn : ysNodup p := List.pairwise_map.mpr (h.1.imp fun w => by omega)
  constructor
  · rintro ⟨u, hu, e, g⟩
    rw [ys_eq hn t ht u hu e.symm]
    exact g
  · exact fun g => ⟨t, ht, rfl, g⟩
end P
namespace P
open PySem L2 FL
/-! sorted triples, put together to a picture -/
def leTr (a b : Tri) : Bool := decide (a.1 < b.1 ∨ (a.1 = b.1 ∧ (a.2.1 < b.2.1 ∨ (a.2.1 = b.2.1 ∧ a.2.2 ≤ b.2.2))))
theorem pyg_eTr (t : Tri) : pyg (eTr t) = .tuple [.int t.1, .int t.2.1, .int t.2.2] := rfl
theorem ordD_eTr (a b : Tri) : ordD (eTr a) (eTr b) = leTr a b := by
  show (!PySem.W.dataLt (pyg (eTr b)) (pyg (eTr a))) = _
  rw [pyg_eTr, pyg_eTr, PySem.W.dataLt_tuple, PySem.W.dataLt_cons (by simp [PySem.W.alike]), PySem.W.dataLt_cons (by simp [PySem.W.alike]), PySem.W.dataLt_cons (by simp [PySem.W.alike]), PySem.W.dataLt_int, PySem.W.dataLt_int, PySem.W.dataLt_int]
  have e : PyProof.Rows.lexLt PyProof.Rows.itemOrd (PySem.W.keyToksAll []) (PySem.W.keyToksAll []) = false := PyProof.Rows.lex_irrefl _
  rw [e]
  simp only [PyData.eqv, beq_iff_eq, leTr]
  by_cases h1 : b.1 = a.1 <;> by_cases h2 : b.2.1 = a.2.1 <;> by_cases h3 : b.2.2 = a.2.2
  all_goals simp [h1, h2, h3]
  all_goals rw [Bool.eq_iff_iff]
  all_goals simp
  all_goals omega
theorem leTr_trans (a b c : Tri) (h1 : leTr a b = true) (h2 : leTr b c = true) : leTr a c = true := by
  simp only [leTr, decide_eq_true_eq] at *
  omega
theorem leTr_total (a b : Tri) : (leTr a b || leTr b a) = true := by
  simp only [leTr, Bool.or_eq_true, decide_eq_true_eq] at *
  omega
theorem sortOk_eTr (ts : List Tri) : sortOk (ts.map eTr) = true := by
  unfold sortOk
  rw [Bool.and_eq_true, Bool.and_eq_true]
  refine ⟨⟨?_, ?_⟩, ?_⟩
  · rw [List.all_eq_true]
    intro d hd
    obtain ⟨t, _, rfl⟩ := List.mem_map.mp hd
    rfl
  · rw [List.all_eq_true]
    intro d hd
    rw [List.all_eq_true]
    intro e he
    obtain ⟨s, _, rfl⟩ := List.mem_map.mp hd
    obtain ⟨t, _, rfl⟩ := List.mem_map.mp he
    rfl
  · rw [Bool.or_eq_true]
    left
    rw [List.all_eq_true]
    intro d hd
    obtain ⟨t, _, rfl⟩ := List.mem_map.mp hd
    rfl
theorem sortD_eTr (ts : List Tri) : sortD (.lst (ts.map eTr)) = .ok (.lst ((ts.mergeSort leTr).map eTr)) := by
  show (if sortOk (ts.map eTr) = true then Res.ok (D.lst ((ts.map eTr).mergeSort ordD)) else .no) = _
  rw [if_pos (sortOk_eTr ts)]
  congr 2
  exact (List.map_mergeSort (fun a _ b _ => (ordD_eTr a b).symm)).symm
/-- the last row ahead, in each the last stretch ahead -/
def stepP : Pic → Tri → Pic
  | [], t => [(t.1, [t.2])]
  | (y, s) :: r, t => if y = t.1 then (y, stepR s t.2) :: r else (t.1, [t.2]) :: (y, s) :: r
def IsPst (p : Pic) : Prop := p.Pairwise (fun a b => b.1 < a.1) ∧ ∀ t ∈ p, IsStk t.2 ∧ t.2 ≠ []
def PstLe (p : Pic) (t : Tri) : Prop := ∀ y s r, p = (y, s) :: r → y ≤ t.1 ∧ (y = t.1 → ∀ a ∈ s, a.1 ≤ t.2.1)
theorem stepR_ne (s : List St2) (p : St2) : stepR s p ≠ [] := by
  cases s with
  | nil => simp [stepR]
  | cons l t =>
    simp only [stepR]
    split <;> simp
theorem stepR_all {s : List St2} {p : St2} (hs : IsStk s) (hp : p.1 ≤ p.2) (hl : ∀ a ∈ s, a.1 ≤ p.1) : IsStk (stepR s p) ∧ (∀ x, inR (stepR s p) x ↔ inR s x ∨ (p.1 ≤ x ∧ x ≤ p.2)) ∧ ∀ a ∈ stepR s p, a.1 ≤ p.1 := by
  have h := fold_row [p] s hs (List.pairwise_singleton _ _) (fun q hq => by rw [List.mem_singleton.mp hq]; exact hp) (fun a ha q hq => by rw [List.mem_singleton.mp hq]; exact hl a ha)
  refine ⟨h.1, fun x => ?_, fun a ha => ?_⟩
  · have := h.2 x
    rw [inR_cons] at this
    simp only [inR_nil, or_false] at this
    exact this
  · cases s with
    | nil =>
      rw [List.mem_singleton.mp ha]
      exact Int.le_refl _
    | cons l t =>
      simp only [stepR] at ha
      split at ha
      · rcases List.mem_cons.mp ha with rfl | ha
        · exact hl l List.mem_cons_self
        · exact hl a (List.mem_cons_of_mem _ ha)
      · rcases List.mem_cons.mp ha with rfl | ha
        · exact Int.le_refl _
        · exact hl a ha
theorem stk_one {p : St2} (hp : p.1 ≤ p.2) : IsStk [p] := ⟨List.pairwise_singleton _ _, fun q hq => by rw [List.mem_singleton.mp hq]; exact hp⟩
theorem stepP_all {p : Pic} {t : Tri} (hp : IsPst p) (ht : t.2.1 ≤ t.2.2) (hl : PstLe p t) : IsPst (stepP p t) ∧ (∀ x y, inP (stepP p t) x y ↔ inP p x y ∨ (t.1 = y ∧ t.2.1 ≤ x ∧ x ≤ t.2.2)) ∧ ∀ u : Tri, leTr t u = true → PstLe (stepP p t) u := by
  have one : ∀ x, inR [t.2] x ↔ t.2.1 ≤ x ∧ x ≤ t.2.2 := fun x => by simp [inR]
  cases p with
  | nil =>
    refine ⟨⟨List.pairwise_singleton _ _, fun s hs => ?_⟩, fun x y => ?_, fun u hu y s r e => ?_⟩
    · rw [List.mem_singleton.mp hs]
      exact ⟨stk_one ht, List.cons_ne_nil _ _⟩
    · show inP [(t.1, [t.2])] x y ↔ _
      rw [inP_cons]
      simp only [inP_nil, or_false, false_or]
      rw [one]
    · cases e
      simp only [leTr, decide_eq_true_eq] at hu
      refine ⟨by omega, fun e a ha => ?_⟩
      rw [List.mem_singleton.mp ha]
      omega
  | cons h r =>
    obtain ⟨y0, s0⟩ := h
    obtain ⟨l1, l2⟩ := hl y0 s0 r rfl
    have hpc := List.pairwise_cons.mp hp.1
    obtain ⟨k1, k2⟩ := hp.2 (y0, s0) List.mem_cons_self
    by_cases e : y0 = t.1
    · have hst : stepP ((y0, s0) :: r) t = (y0, stepR s0 t.2) :: r := if_pos e
      obtain ⟨a1, a2, a3⟩ := stepR_all k1 ht (l2 e)
      rw [hst]
      refine ⟨⟨List.pairwise_cons.mpr ⟨hpc.1, hpc.2⟩, fun s hs => ?_⟩, fun x y => ?_, fun u hu y s r' e' => ?_⟩
      · rcases List.mem_cons.mp hs with rfl | hs
        · exact ⟨a1, stepR_ne _ _⟩
        · exact hp.2 s (List.mem_cons_of_mem _ hs)
      · rw [inP_cons, inP_cons]
        dsimp only
        rw [a2, e]
        constructor
        · rintro (⟨z, w | w⟩ | w)
          · exact .inl (.inl ⟨z, w⟩)
          · exact .inr ⟨z, w⟩
          · exact .inl (.inr w)
        · rintro ((⟨z, w⟩ | w) | ⟨z, w⟩)
          · exact .inl ⟨z, .inl w⟩
          · exact .inr w
          · exact .inl ⟨z, .inr w⟩
      · cases e'
        simp only [leTr, decide_eq_true_eq] at hu
        refine ⟨by omega, fun e2 a ha => ?_⟩
        have := a3 a ha
        omega
    · have hst : stepP ((y0, s0) :: r) t = (t.1, [t.2]) :: (y0, s0) :: r := if_neg e
      rw [hst]
      refine ⟨⟨List.pairwise_cons.mpr ⟨fun b hb => ?_, hp.1⟩, fun s hs => ?_⟩, fun x y => ?_, fun u hu y s r' e' => ?_⟩
      · show b.1 < t.1
        rcases List.mem_cons.mp hb with rfl | hb
        · show y0 < t.1
          omega
        · have := hpc.1 b hb
          dsimp only at this
          omega
      · rcases List.mem_cons.mp hs with rfl | hs
        · exact ⟨stk_one ht, List.cons_ne_nil _ _⟩
        · exact hp.2 s hs
      · rw [inP_cons]
        dsimp only
        rw [one]
        exact Or.comm
      · cases e'
        simp only [leTr, decide_eq_true_eq] at hu
        refine ⟨by omega, fun e2 a ha => ?_⟩
        rw [List.mem_singleton.mp ha]
        omega
theorem foldP_all : ∀ (ts : List Tri) (p : Pic), IsPst p → ts.Pairwise (fun a b => leTr a b = true) → (∀ t ∈ ts, t.2.1 ≤ t.2.2) → (∀ t ∈ ts, PstLe p t) → IsPst (ts.foldl stepP p) ∧ ∀ x y, inP (ts.foldl stepP p) x y ↔ inP p x y ∨ inT ts x y
  | [], p, hp, _, _, _ => ⟨hp, fun x y => by simp [inT]⟩
  | t :: ts, p, hp, hs, ho, hl => by
    have hs' := List.pairwise_cons.mp hs
    obtain ⟨a1, a2, a3⟩ := stepP_all hp (ho t List.mem_cons_self) (hl t List.mem_cons_self)
    have ih := foldP_all ts (stepP p t) a1 hs'.2 (fun u hu => ho u (List.mem_cons_of_mem _ hu)) fun u hu => a3 u (hs'.1 u hu)
    refine ⟨ih.1, fun x y => ?_⟩
    rw [List.foldl_cons, ih.2, a2, or_assoc]
    have : inT (t :: ts) x y ↔ (t.1 = y ∧ t.2.1 ≤ x ∧ x ≤ t.2.2) ∨ inT ts x y := by simp [inT]
    rw [this]
def revP (p : Pic) : Pic := p.reverse.map fun t => (t.1, t.2.reverse)
theorem revP_in (p : Pic) (x y : Int) : inP (revP p) x y ↔ inP p x y := by
  unfold revP
  constructor
  · rintro ⟨t, ht, e, g⟩
    obtain ⟨u, hu, rfl⟩ := List.mem_map.mp ht
    exact ⟨u, List.mem_reverse.mp hu, e, (inR_reverse _ _).mp g⟩
  · rintro ⟨u, hu, e, g⟩
    exact ⟨_, List.mem_map.mpr ⟨u, List.mem_reverse.mpr hu, rfl⟩, e, (inR_reverse _ _).mpr g⟩
theorem revP_pic {p : Pic} (h : IsPst p) : IsPic (revP p) := by
  unfold revP
  refine ⟨List.pairwise_map.mpr (List.pairwise_reverse.mpr h.1), fun t ht => ?_⟩
  obtain ⟨u, hu, rfl⟩ := List.mem_map.mp ht
  obtain ⟨a, b⟩ := h.2 u (List.mem_reverse.mp hu)
  exact ⟨a.row, fun z => b (by simpa using z)⟩
/-- sorted triples put together are the picture -/
theorem lawPic {ts : List Tri} (ho : ∀ t ∈ ts, t.2.1 ≤ t.2.2) : revP ((ts.mergeSort leTr).foldl stepP []) = picOf ts := by
  have pm := List.mergeSort_perm ts leTr
  have h := foldP_all (ts.mergeSort leTr) [] ⟨.nil, fun _ h => by cases h⟩ (List.pairwise_mergeSort leTr_trans leTr_total ts) (fun t ht => ho t (pm.mem_iff.mp ht)) (fun t ht y s r e => by cases e)
  refine pic_ext (revP_pic h.1) (picOf_pic ts) fun x y => ?_
  rw [revP_in, h.2, picOf_in]
  simp only [inP_nil, false_or, inT]
  constructor
  · rintro ⟨t, ht, g⟩
    exact ⟨t, pm.mem_iff.mp ht, g⟩
  · rintro ⟨t, ht, g⟩
    exact ⟨t, pm.mem_iff.mpr ht, g⟩
end P
namespace P
open PySem L2 FL
/-! pictures in a frame: how many rows, stretches, cells at most -/
def InF (p : Pic) (a m b n : Int) : Prop := ∀ x y, inP p x y → (a ≤ x ∧ x < a + m) ∧ (b ≤ y ∧ y < b + n)
theorem cntIn_le (r : List St2) : ∀ (n : Nat) (a : Int), cntIn r a n ≤ n
  | 0, _ => Nat.le_refl _
  | n + 1, a => by
    rw [cntIn_s]
    have := cntIn_le r n (a + 1)
    split <;> omega
theorem len_cntR : ∀ {r : List St2}, IsRow r → (r.length : Int) ≤ cntR r
  | [], _ => by simp [cntR]
  | p :: r, h => by
    have h1 := len_cntR h.tail
    have h2 := h.2 p List.mem_cons_self
    rw [cntR_cons, List.length_cons]
    omega
theorem incr_len : ∀ {p : Pic} {b : Int} {n : Nat}, p.Pairwise (fun s t => s.1 < t.1) → (∀ t ∈ p, b ≤ t.1 ∧ t.1 < b + n) → p.length ≤ n
  | [], _, _, _, _ => Nat.zero_le _
  | t :: p, b, n, h, hb => by
    have h1 := List.pairwise_cons.mp h
    have h2 := hb t List.mem_cons_self
    have := incr_len (p := p) (b := t.1 + 1) (n := (b + n - (t.1 + 1)).toNat) h1.2 fun s hs => by
      have := h1.1 s hs
      have := hb s (List.mem_cons_of_mem _ hs)
      omega
    rw [List.length_cons]
    omega
def cntPi (p : Pic) : Int := (p.map fun t => cntR t.2).sum
theorem cntPi_le {m : Int} (hm : 0 ≤ m) : ∀ {p : Pic}, (∀ t ∈ p, cntR t.2 ≤ m) → cntPi p ≤ p.length * m
  | [], _ => by simp [cntPi]
  | t :: p, h => by
    have h1 := cntPi_le hm (p := p) fun s hs => h s (List.mem_cons_of_mem _ hs)
    have h2 := h t List.mem_cons_self
    have h3 : cntPi (t :: p) = cntR t.2 + cntPi p := by simp [cntPi]
    rw [h3, List.length_cons]
    have : ((p.length + 1 : Nat) : Int) * m = p.length * m + m := by rw [Int.natCast_add, Int.add_mul]; simp
    omega
theorem frame_rows {p : Pic} (h : IsPic p) {a b : Int} {m n : Nat} (hf : InF p a m b n) : p.length ≤ n ∧ (∀ t ∈ p, cntR t.2 ≤ m ∧ t.2.length ≤ m) ∧ cntPi p ≤ (n : Int) * m := by
  have hl : p.length ≤ n := incr_len h.1 fun t ht => by
    obtain ⟨x, hx⟩ := row_cell (h.2 t ht).1 (h.2 t ht).2
    exact (hf x t.1 ⟨t, ht, rfl, hx⟩).2
  have hr : ∀ t ∈ p, cntR t.2 ≤ m ∧ t.2.length ≤ m := fun t ht => by
    have hrow := (h.2 t ht).1
    have e := cntR_eq hrow a m fun x g => (hf x t.1 ⟨t, ht, rfl, g⟩).1
    have l1 := cntIn_le t.2 m a
    have l2 := len_cntR hrow
    omega
  refine ⟨hl, hr, ?_⟩
  have h1 := cntPi_le (m := m) (by omega) (p := p) fun t ht => (hr t ht).1
  have h2 : (p.length : Int) * m ≤ (n : Int) * m := Int.mul_le_mul_of_nonneg_right (by omega) (by omega)
  omega
end P
namespace P
open PySem L2 FL
/-! pictures by their rows: joined, in common, less, either -/
def rowAt (p : Pic) (y : Int) : List St2 := match p.find? fun t => decide (t.1 = y) with
  | some t => t.2
  | none => []
theorem rowAt_nil (y : Int) : rowAt [] y = [] := rfl
theorem rowAt_cons (t : Int × List St2) (p : Pic) (y : Int) : rowAt (t :: p) y = if t.1 = y then t.2 else rowAt p y := by
  unfold rowAt
  rw [List.find?_cons]
  by_cases h : t.1 = y <;> simp [h]
theorem IsPic.ys {p : Pic} (h : IsPic p) : ysNodup p := List.pairwise_map.mpr (h.1.imp fun w => by omega)
theorem rowAt_none : ∀ {p : Pic} {y : Int}, y ∉ p.map (·.1) → rowAt p y = []
  | [], _, _ => rfl
  | t :: p, y, h => by
    rw [List.map_cons, List.mem_cons, not_or] at h
    rw [rowAt_cons, if_neg fun e => h.1 e.symm]
    exact rowAt_none h.2
theorem rowAt_mem : ∀ {p : Pic}, ysNodup p → ∀ t ∈ p, rowAt p t.1 = t.2
  | s :: p, hn, t, ht => by
    have hn' := List.nodup_cons.mp hn
    rw [rowAt_cons]
    rcases List.mem_cons.mp ht with rfl | ht
    · rw [if_pos rfl]
    · rw [if_neg fun e => hn'.1 (List.mem_map.mpr ⟨t, ht, e.symm⟩)]
      exact rowAt_mem hn'.2 t ht
theorem rowAt_of : ∀ {p : Pic} {y : Int}, (∃ t ∈ p, t.1 = y ∧ rowAt p y = t.2) ∨ (y ∉ p.map (·.1) ∧ rowAt p y = [])
  | [], y => .inr ⟨by simp, rfl⟩
  | t :: p, y => by
    rw [rowAt_cons]
    by_cases h : t.1 = y
    · exact .inl ⟨t, List.mem_cons_self, h, if_pos h⟩
    · rw [if_neg h]
      rcases rowAt_of (p := p) (y := y) with ⟨s, a, b, c⟩ | ⟨a, b⟩
      · exact .inl ⟨s, List.mem_cons_of_mem _ a, b, c⟩
      · exact .inr ⟨by rw [List.map_cons, List.mem_cons, not_or]; exact ⟨fun e => h e.symm, a⟩, b⟩
theorem rowAt_row {p : Pic} (h : ∀ t ∈ p, IsRow t.2) (y : Int) : IsRow (rowAt p y) := by
  rcases rowAt_of (p := p) (y := y) with ⟨s, a, b, c⟩ | ⟨a, b⟩
  · rw [c]; exact h s a
  · rw [b]; exact IsRow.nil
theorem inP_rowAt {p : Pic} (hn : ysNodup p) (x y : Int) : inP p x y ↔ inR (rowAt p y) x := by
  constructor
  · rintro ⟨t, ht, rfl, g⟩
    rw [rowAt_mem hn t ht]; exact g
  · intro g
    rcases rowAt_of (p := p) (y := y) with ⟨s, a, b, c⟩ | ⟨a, b⟩
    · rw [c] at g; exact ⟨s, a, b, g⟩
    · rw [b] at g; exact absurd g (inR_nil x)
def putP (p : Pic) (y : Int) (r : List St2) : Pic := if (p.any fun t => decide (t.1 = y)) = true then p.map (fun t => if t.1 = y then (t.1, r) else t) else p ++ [(y, r)]
theorem any_ys (p : Pic) (y : Int) : (p.any fun t => decide (t.1 = y)) = true ↔ y ∈ p.map (·.1) := by
  simp [List.any_eq_true]
theorem repl_ys (p : Pic) (y : Int) (r : List St2) : (p.map fun t => if t.1 = y then (t.1, r) else t).map (·.1) = p.map (·.1) := by
  rw [List.map_map]
  apply List.map_congr_left
  intro t _
  show (if t.1 = y then (t.1, r) else t).1 = t.1
  split <;> rfl
theorem repl_at (r : List St2) (y y' : Int) : ∀ p : Pic, rowAt (p.map fun t => if t.1 = y then (t.1, r) else t) y' = if y' = y ∧ y ∈ p.map (·.1) then r else rowAt p y'
  | [] => by simp [rowAt_nil]
  | t :: p => by
    rw [List.map_cons, rowAt_cons, rowAt_cons, repl_at r y y' p, List.map_cons]
    by_cases h2 : y' = y
    · subst h2
      by_cases h : t.1 = y'
      · subst h; simp
      · have hm : y' ∈ t.1 :: p.map (·.1) ↔ y' ∈ p.map (·.1) := by rw [List.mem_cons]; exact ⟨fun z => z.resolve_left fun e => h e.symm, .inr⟩
        rw [if_neg h, if_neg h, if_neg h]
        simp only [hm]
    · have n1 : ¬ (y' = y ∧ y ∈ p.map (·.1)) := fun z => h2 z.1
      have n2 : ¬ (y' = y ∧ y ∈ t.1 :: p.map (·.1)) := fun z => h2 z.1
      rw [if_neg n1, if_neg n2]
      by_cases h : t.1 = y
      · rw [if_pos h, if_neg (show ¬ t.1 = y' from fun e => h2 (e.symm.trans h)), if_neg fun e : t.1 = y' => h2 (e.symm.trans h)]
      · rw [if_neg h]
theorem snoc_at (r : List St2) (y y' : Int) : ∀ p : Pic, y ∉ p.map (·.1) → rowAt (p ++ [(y, r)]) y' = if y' = y then r else rowAt p y'
  | [], _ => by
    rw [List.nil_append, rowAt_cons]
    by_cases h : y' = y
    · simp [h]
    · rw [if_neg (fun e => h e.symm), if_neg h]
  | t :: p, hy => by
    rw [List.map_cons, List.mem_cons, not_or] at hy
    rw [List.cons_append, rowAt_cons, rowAt_cons, snoc_at r y y' p hy.2]
    by_cases h : t.1 = y'
    · rw [if_pos h, if_pos h, if_neg fun e => hy.1 (e.symm.trans h.symm)]
    · rw [if_neg h, if_neg h]
theorem putP_at (p : Pic) (y y' : Int) (r : List St2) : rowAt (putP p y r) y' = if y' = y then r else rowAt p y' := by
  unfold putP
  split
  · rename_i h
    rw [repl_at]
    have := (any_ys p y).mp h
    simp [this]
  · rename_i h
    exact snoc_at r y y' p fun z => h ((any_ys p y).mpr z)
theorem putP_ys (p : Pic) (y : Int) (r : List St2) (hn : ysNodup p) : ysNodup (putP p y r) ∧ ∀ y', y' ∈ (putP p y r).map (·.1) ↔ y' = y ∨ y' ∈ p.map (·.1) := by
  unfold putP
  split
  · rename_i h
    have := (any_ys p y).mp h
    refine ⟨by unfold ysNodup; rw [repl_ys]; exact hn, fun y' => ?_⟩
    rw [repl_ys]
    constructor
    · exact .inr
    · rintro (rfl | h)
      · exact this
      · exact h
  · rename_i h
    have hy : y ∉ p.map (·.1) := fun z => h ((any_ys p y).mpr z)
    refine ⟨?_, fun y' => ?_⟩
    · unfold ysNodup
      rw [List.map_append, List.nodup_append]
      refine ⟨hn, by simp, fun a ha b hb => ?_⟩
      have : b = y := by simpa using hb
      rw [this]
      exact fun e => hy (e ▸ ha)
    · rw [List.map_append, List.mem_append]
      simp only [List.map_cons, List.map_nil, List.mem_singleton]
      exact Or.comm
theorem putP_row (p : Pic) (y : Int) (r : List St2) (h : ∀ t ∈ p, IsRow t.2) (hr : IsRow r) : ∀ t ∈ putP p y r, IsRow t.2 := by
  intro t ht
  unfold putP at ht
  split at ht
  · obtain ⟨s, hs, rfl⟩ := List.mem_map.mp ht
    split
    · exact hr
    · exact h s hs
  · rcases List.mem_append.mp ht with ht | ht
    · exact h t ht
    · rw [List.mem_singleton.mp ht]; exact hr
theorem putP_len (p : Pic) (y : Int) (r : List St2) : (putP p y r).length ≤ p.length + 1 := by
  unfold putP
  split
  · rw [List.length_map]; omega
  · simp
def updP (f : List St2 → List St2 → List St2) (p q : Pic) : Pic := q.foldl (fun acc t => putP acc t.1 (f (rowAt acc t.1) t.2)) p
theorem updP_all {f : List St2 → List St2 → List St2} (hf : ∀ r s, IsRow r → IsRow s → IsRow (f r s)) : ∀ (q p : Pic), ysNodup p → ysNodup q → (∀ t ∈ p, IsRow t.2) → (∀ t ∈ q, IsRow t.2) →
    ysNodup (updP f p q) ∧ (∀ t ∈ updP f p q, IsRow t.2) ∧ (updP f p q).length ≤ p.length + q.length ∧ ∀ y, rowAt (updP f p q) y = if y ∈ q.map (·.1) then f (rowAt p y) (rowAt q y) else rowAt p y
  | [], p, hp, _, rp, _ => ⟨hp, rp, by simp [updP], fun y => by simp [updP]⟩
  | t :: q, p, hp, hq, rp, rq => by
    have hq' := List.nodup_cons.mp hq
    have rt := rq t List.mem_cons_self
    have h1 := putP_ys p t.1 (f (rowAt p t.1) t.2) hp
    have h2 := putP_row p t.1 (f (rowAt p t.1) t.2) rp (hf _ _ (rowAt_row rp _) rt)
    have h3 := putP_len p t.1 (f (rowAt p t.1) t.2)
    obtain ⟨a, b, c, d⟩ := updP_all hf q (putP p t.1 (f (rowAt p t.1) t.2)) h1.1 hq'.2 h2 fun s hs => rq s (List.mem_cons_of_mem _ hs)
    have e : updP f p (t :: q) = updP f (putP p t.1 (f (rowAt p t.1) t.2)) q := rfl
    rw [e]
    refine ⟨a, b, by rw [List.length_cons]; omega, fun y => ?_⟩
    rw [d y, putP_at, List.map_cons, rowAt_cons]
    by_cases hy : y = t.1
    · have : y ∉ q.map (·.1) := by rw [hy]; exact hq'.1
      rw [if_neg this, if_pos hy, if_pos (by rw [hy]; exact List.mem_cons_self), if_pos hy.symm, hy]
    · have e2 : y ∈ t.1 :: q.map (·.1) ↔ y ∈ q.map (·.1) := by rw [List.mem_cons]; exact ⟨fun h => h.resolve_left hy, .inr⟩
      rw [if_neg hy, if_neg (show ¬ t.1 = y from fun z => hy z.symm)]
      simp only [e2]
theorem updP_snoc (f : List St2 → List St2 → List St2) (p q : Pic) (t : Int × List St2) : updP f p (q ++ [t]) = putP (updP f p q) t.1 (f (rowAt (updP f p q) t.1) t.2) := by
  unfold updP
  rw [List.foldl_append]
  rfl
theorem updP_ix {f : List St2 → List St2 → List St2} (hf : ∀ r s, IsRow r → IsRow s → IsRow (f r s)) {p q : Pic} (hp : IsPic p) (hq : IsPic q) {i : Nat} (hi : i < q.length) :
    rowAt (updP f p (q.take i)) q[i].1 = rowAt p q[i].1 ∧ updP f p (q.take (i + 1)) = putP (updP f p (q.take i)) q[i].1 (f (rowAt p q[i].1) q[i].2) ∧ (updP f p (q.take i)).length ≤ p.length + i := by
  have hn : ysNodup (q.take i) := (List.Sublist.map _ (List.take_sublist i q)).nodup hq.ys
  obtain ⟨a, b, c, d⟩ := updP_all hf (q.take i) p hp.ys hn (fun t ht => (hp.2 t ht).1) fun t ht => (hq.2 t (List.mem_of_mem_take ht)).1
  have e1 : rowAt (updP f p (q.take i)) q[i].1 = rowAt p q[i].1 := by
    rw [d, if_neg]
    intro z
    obtain ⟨s, hs, e⟩ := List.mem_map.mp z
    obtain ⟨j, hj, e2⟩ := List.mem_iff_getElem.mp hs
    rw [List.length_take] at hj
    have e3 : q[j] = s := by rw [← e2, List.getElem_take]
    have := List.pairwise_iff_getElem.mp hq.1 j i (by omega) hi (by omega)
    rw [e3] at this
    omega
  refine ⟨e1, ?_, ?_⟩
  · rw [List.take_succ_eq_append_getElem hi, updP_snoc, e1]
  · refine Nat.le_trans c ?_
    rw [List.length_take]
    omega
def joinP (p q : Pic) : Pic := picRows (updP joinR p q)
def eitP (p q : Pic) : Pic := picRows (updP eithR p q)
def comP (p q : Pic) : Pic := picRows (p.map fun t => (t.1, comR t.2 (rowAt q t.1)))
def lesP (p q : Pic) : Pic := picRows (p.map fun t => (t.1, lessR t.2 (rowAt q t.1)))
theorem IsPic.rows {p : Pic} (h : IsPic p) : ∀ t ∈ p, IsRow t.2 := fun t ht => (h.2 t ht).1
theorem joinP_pic {p q : Pic} (hp : IsPic p) (hq : IsPic q) : IsPic (joinP p q) := by
  obtain ⟨a, b, _, _⟩ := updP_all (f := joinR) (fun r s _ _ => joinR_row r s) q p hp.ys hq.ys hp.rows hq.rows
  exact picRows_pic a b
theorem eitP_pic {p q : Pic} (hp : IsPic p) (hq : IsPic q) : IsPic (eitP p q) := by
  obtain ⟨a, b, _, _⟩ := updP_all (f := eithR) (fun r s _ _ => eithR_row r s) q p hp.ys hq.ys hp.rows hq.rows
  exact picRows_pic a b
theorem map_ys {p : Pic} (f : Int × List St2 → List St2) (h : ysNodup p) : ysNodup (p.map fun t => (t.1, f t)) := by
  unfold ysNodup
  rw [List.map_map]
  exact h
theorem comP_pic {p q : Pic} (hp : IsPic p) : IsPic (comP p q) := picRows_pic (map_ys (fun t => comR t.2 (rowAt q t.1)) hp.ys) fun t ht => by
  obtain ⟨s, _, rfl⟩ := List.mem_map.mp ht
  exact comR_row _ _
theorem lesP_pic {p q : Pic} (hp : IsPic p) : IsPic (lesP p q) := picRows_pic (map_ys (fun t => lessR t.2 (rowAt q t.1)) hp.ys) fun t ht => by
  obtain ⟨s, _, rfl⟩ := List.mem_map.mp ht
  exact lessR_row _ _
theorem joinP_in {p q : Pic} (hp : IsPic p) (hq : IsPic q) (x y : Int) : inP (joinP p q) x y ↔ inP p x y ∨ inP q x y := by
  obtain ⟨a, b, _, d⟩ := updP_all (f := joinR) (fun r s _ _ => joinR_row r s) q p hp.ys hq.ys hp.rows hq.rows
  unfold joinP
  rw [picRows_in, inP_rowAt a, d y, inP_rowAt hp.ys, inP_rowAt hq.ys]
  by_cases h : y ∈ q.map (·.1)
  · rw [if_pos h, joinR_in]
  · rw [if_neg h, rowAt_none h]
    exact ⟨.inl, fun z => z.resolve_right (inR_nil x)⟩
theorem eitP_in {p q : Pic} (hp : IsPic p) (hq : IsPic q) (x y : Int) : inP (eitP p q) x y ↔ (inP p x y ∧ ¬ inP q x y) ∨ (inP q x y ∧ ¬ inP p x y) := by
  obtain ⟨a, b, _, d⟩ := updP_all (f := eithR) (fun r s _ _ => eithR_row r s) q p hp.ys hq.ys hp.rows hq.rows
  unfold eitP
  rw [picRows_in, inP_rowAt a, d y, inP_rowAt hp.ys, inP_rowAt hq.ys]
  by_cases h : y ∈ q.map (·.1)
  · rw [if_pos h, eithR_in (rowAt_row hp.rows y) (rowAt_row hq.rows y)]
  · rw [if_neg h, rowAt_none h]
    exact ⟨fun z => .inl ⟨z, inR_nil x⟩, fun z => z.elim (fun z => z.1) fun z => absurd z.1 (inR_nil x)⟩
theorem inP_map {p : Pic} (f : Int × List St2 → List St2) (x y : Int) : inP (p.map fun t => (t.1, f t)) x y ↔ ∃ t ∈ p, t.1 = y ∧ inR (f t) x := by
  constructor
  · rintro ⟨t, ht, e, g⟩
    obtain ⟨s, hs, rfl⟩ := List.mem_map.mp ht
    exact ⟨s, hs, e, g⟩
  · rintro ⟨t, ht, e, g⟩
    exact ⟨_, List.mem_map.mpr ⟨t, ht, rfl⟩, e, g⟩
theorem comP_in {p q : Pic} (hq : IsPic q) (x y : Int) : inP (comP p q) x y ↔ inP p x y ∧ inP q x y := by
  unfold comP
  rw [picRows_in, inP_map (fun t => comR t.2 (rowAt q t.1)), inP_rowAt hq.ys]
  constructor
  · rintro ⟨t, ht, rfl, g⟩
    rw [comR_in] at g
    exact ⟨⟨t, ht, rfl, g.1⟩, g.2⟩
  · rintro ⟨⟨t, ht, rfl, g⟩, g2⟩
    exact ⟨t, ht, rfl, (comR_in _ _ _).mpr ⟨g, g2⟩⟩
theorem lesP_in {p q : Pic} (hq : IsPic q) (x y : Int) : inP (lesP p q) x y ↔ inP p x y ∧ ¬ inP q x y := by
  unfold lesP
  rw [picRows_in, inP_map (fun t => lessR t.2 (rowAt q t.1)), inP_rowAt hq.ys]
  constructor
  · rintro ⟨t, ht, rfl, g⟩
    rw [lessR_in (rowAt_row hq.rows _)] at g
    exact ⟨⟨t, ht, rfl, g.1⟩, g.2⟩
  · rintro ⟨⟨t, ht, rfl, g⟩, g2⟩
    exact ⟨t, ht, rfl, (lessR_in (rowAt_row hq.rows _) _).mpr ⟨g, g2⟩⟩
/-! how many stretches -/
theorem nodup_le {α : Type} [DecidableEq α] : ∀ {l m : List α}, l.Nodup → (∀ x ∈ l, x ∈ m) → l.length ≤ m.length
  | [], _, _, _ => Nat.zero_le _
  | a :: l, m, hn, hs => by
    have hn' := List.nodup_cons.mp hn
    have ha := hs a List.mem_cons_self
    have := nodup_le (m := m.erase a) hn'.2 fun x hx => (List.mem_erase_of_ne (fun e : x = a => hn'.1 (e ▸ hx))).mpr (hs x (List.mem_cons_of_mem _ hx))
    rw [List.length_erase_of_mem ha] at this
    have hp := List.length_pos_of_mem ha
    rw [List.length_cons]
    omega
theorem IsRow.prev {r : List St2} (h : IsRow r) {p : St2} (hp : p ∈ r) : ¬ inR r (p.1 - 1) := by
  rintro ⟨q, hq, g⟩
  obtain ⟨i, hi, rfl⟩ := List.mem_iff_getElem.mp hp
  obtain ⟨j, hj, rfl⟩ := List.mem_iff_getElem.mp hq
  have pw := List.pairwise_iff_getElem.mp h.1
  rcases Nat.lt_trichotomy i j with z | z | z
  · have := pw i j hi hj z
    have := h.2 _ (List.getElem_mem hi)
    omega
  · subst z; omega
  · have := pw j i hj hi z
    omega
theorem mem_strOf {p : Pic} {t : Tri} : t ∈ strOf p ↔ ∃ u ∈ p, u.1 = t.1 ∧ t.2 ∈ u.2 := by
  unfold strOf
  rw [List.mem_flatMap]
  constructor
  · rintro ⟨u, hu, ht⟩
    obtain ⟨s, hs, rfl⟩ := List.mem_map.mp ht
    exact ⟨u, hu, rfl, hs⟩
  · rintro ⟨u, hu, e, ht⟩
    exact ⟨u, hu, List.mem_map.mpr ⟨t.2, ht, by rw [e]⟩⟩
theorem str_start {p : Pic} (h : IsPic p) {t : Tri} (ht : t ∈ strOf p) : inP p t.2.1 t.1 ∧ ¬ inP p (t.2.1 - 1) t.1 ∧ inP p t.2.2 t.1 ∧ ¬ inP p (t.2.2 + 1) t.1 ∧ t.2.1 ≤ t.2.2 := by
  obtain ⟨u, hu, e, hs⟩ := mem_strOf.mp ht
  have hr := (h.2 u hu).1
  have ho := hr.2 _ hs
  rw [← e, row_of_pic h hu, row_of_pic h hu, row_of_pic h hu, row_of_pic h hu]
  exact ⟨⟨_, hs, Int.le_refl _, ho⟩, hr.prev hs, ⟨_, hs, ho, Int.le_refl _⟩, hr.next hs, ho⟩
theorem start_str {p : Pic} {x y : Int} (h1 : inP p x y) (h2 : ¬ inP p (x - 1) y) : ∃ t ∈ strOf p, t.1 = y ∧ t.2.1 = x := by
  obtain ⟨u, hu, rfl, s, hs, g1, g2⟩ := h1
  refine ⟨(u.1, s.1, s.2), mem_strOf.mpr ⟨u, hu, rfl, hs⟩, rfl, ?_⟩
  by_cases e : s.1 = x
  · exact e
  · exact absurd ⟨u, hu, rfl, s, hs, by omega, by omega⟩ h2
theorem end_str {p : Pic} {x y : Int} (h1 : inP p x y) (h2 : ¬ inP p (x + 1) y) : ∃ t ∈ strOf p, t.1 = y ∧ t.2.2 = x := by
  obtain ⟨u, hu, rfl, s, hs, g1, g2⟩ := h1
  refine ⟨(u.1, s.1, s.2), mem_strOf.mpr ⟨u, hu, rfl, hs⟩, rfl, ?_⟩
  by_cases e : s.2 = x
  · exact e
  · exact absurd ⟨u, hu, rfl, s, hs, by omega, by omega⟩ h2
theorem starts_lt {p : Pic} (h : IsPic p) : (strOf p).Pairwise fun a b => a.1 < b.1 ∨ (a.1 = b.1 ∧ a.2.2 + 2 ≤ b.2.1) := by
  induction p with
  | nil => exact .nil
  | cons t p ih =>
    have e : strOf (t :: p) = (t.2.map fun s => (t.1, s.1, s.2)) ++ strOf p := rfl
    rw [e, List.pairwise_append]
    refine ⟨?_, ih h.tail, fun a ha b hb => ?_⟩
    · refine List.pairwise_map.mpr ((h.2 t List.mem_cons_self).1.1.imp fun g => .inr ⟨rfl, g⟩)
    · obtain ⟨s, _, rfl⟩ := List.mem_map.mp ha
      obtain ⟨u, hu, e, _⟩ := mem_strOf.mp hb
      exact .inl (by rw [← e]; exact (List.pairwise_cons.mp h.1).1 u hu)
theorem starts_nodup {p : Pic} (h : IsPic p) : ((strOf p).map fun t => (t.1, t.2.1)).Nodup := by
  have key : ∀ a ∈ strOf p, a.2.1 ≤ a.2.2 := fun a ha => (str_start h ha).2.2.2.2
  refine List.pairwise_map.mpr ?_
  refine List.Pairwise.imp_of_mem (fun {a b} ha hb g e => ?_) (starts_lt h)
  have e1 := congrArg Prod.fst e
  have e2 := congrArg Prod.snd e
  have := key a ha
  dsimp only at e1 e2
  omega
def nS (p : Pic) : Nat := (strOf p).length
theorem nS_le {c : Pic} (hc : IsPic c) (L : List (Int × Int)) (h : ∀ x y, inP c x y → ¬ inP c (x - 1) y → (y, x) ∈ L) : nS c ≤ L.length := by
  have := nodup_le (starts_nodup hc) (m := L) fun z hz => by
    obtain ⟨t, ht, rfl⟩ := List.mem_map.mp hz
    obtain ⟨a, b, _⟩ := str_start hc ht
    exact h _ _ a b
  rw [List.length_map] at this
  exact this
def stL (p : Pic) : List (Int × Int) := (strOf p).map fun t => (t.1, t.2.1)
def enL (p : Pic) : List (Int × Int) := (strOf p).map fun t => (t.1, t.2.2 + 1)
theorem stL_len (p : Pic) : (stL p).length = nS p := List.length_map ..
theorem enL_len (p : Pic) : (enL p).length = nS p := List.length_map ..
theorem stL_of {p : Pic} {x y : Int} (h1 : inP p x y) (h2 : ¬ inP p (x - 1) y) : (y, x) ∈ stL p := by
  obtain ⟨t, ht, e1, e2⟩ := start_str h1 h2
  exact List.mem_map.mpr ⟨t, ht, by rw [e1, e2]⟩
theorem enL_of {p : Pic} {x y : Int} (h1 : ¬ inP p x y) (h2 : inP p (x - 1) y) : (y, x) ∈ enL p := by
  obtain ⟨t, ht, e1, e2⟩ := end_str h2 (by rw [show x - 1 + 1 = x by omega]; exact h1)
  exact List.mem_map.mpr ⟨t, ht, by rw [e1, e2, show x - 1 + 1 = x by omega]⟩
theorem comP_nS {p q : Pic} (hp : IsPic p) (hq : IsPic q) : nS (comP p q) ≤ nS p + nS q := by
  rw [← stL_len p, ← stL_len q, ← List.length_append]
  refine nS_le (comP_pic hp) _ fun x y h1 h2 => ?_
  rw [comP_in hq] at h1 h2
  rw [List.mem_append]
  by_cases z : inP p (x - 1) y
  · exact .inr (stL_of h1.2 fun w => h2 ⟨z, w⟩)
  · exact .inl (stL_of h1.1 z)
theorem lesP_nS {p q : Pic} (hp : IsPic p) (hq : IsPic q) : nS (lesP p q) ≤ nS p + nS q := by
  rw [← stL_len p, ← enL_len q, ← List.length_append]
  refine nS_le (lesP_pic hp) _ fun x y h1 h2 => ?_
  rw [lesP_in hq] at h1 h2
  rw [List.mem_append]
  by_cases z : inP p (x - 1) y
  · exact .inr (enL_of h1.2 (Classical.byContradiction fun w => h2 ⟨z, w⟩))
  · exact .inl (stL_of h1.1 z)
theorem joinP_nS {p q : Pic} (hp : IsPic p) (hq : IsPic q) : nS (joinP p q) ≤ nS p + nS q := by
  rw [← stL_len p, ← stL_len q, ← List.length_append]
  refine nS_le (joinP_pic hp hq) _ fun x y h1 h2 => ?_
  rw [joinP_in hp hq] at h1 h2
  rw [List.mem_append]
  rcases h1 with h1 | h1
  · exact .inl (stL_of h1 fun w => h2 (.inl w))
  · exact .inr (stL_of h1 fun w => h2 (.inr w))
theorem eitP_nS {p q : Pic} (hp : IsPic p) (hq : IsPic q) : nS (eitP p q) ≤ 2 * (nS p + nS q) := by
  have e : ((stL p ++ enL p) ++ (stL q ++ enL q)).length = 2 * (nS p + nS q) := by simp [stL_len, enL_len]; omega
  rw [← e]
  refine nS_le (eitP_pic hp hq) _ fun x y h1 h2 => ?_
  rw [eitP_in hp hq] at h1 h2
  simp only [List.mem_append]
  by_cases a : inP p x y <;> by_cases b : inP q x y <;> by_cases c : inP p (x - 1) y <;> by_cases d : inP q (x - 1) y <;> simp only [a, b, c, d, not_true_eq_false, not_false_eq_true, and_self, and_true, and_false, true_and, false_and, or_self, or_false, false_or, or_true, true_or] at h1 h2 <;> first
    | exact h1.elim
    | exact absurd trivial h2
    | exact .inl (.inl (stL_of a c))
    | exact .inl (.inr (enL_of a c))
    | exact .inr (.inl (stL_of b d))
    | exact .inr (.inr (enL_of b d))
theorem len_nS {p : Pic} (h : IsPic p) : p.length ≤ nS p ∧ ∀ t ∈ p, t.2.length ≤ nS p := by
  induction p with
  | nil => exact ⟨Nat.zero_le _, fun t h => by cases h⟩
  | cons t p ih =>
    obtain ⟨a, b⟩ := ih h.tail
    have e : nS (t :: p) = t.2.length + nS p := by
      show ((t.2.map fun s => (t.1, s.1, s.2)) ++ strOf p).length = _
      rw [List.length_append, List.length_map]
      rfl
    have hp : 0 < t.2.length := List.length_pos_iff.mpr (h.2 t List.mem_cons_self).2
    rw [e, List.length_cons]
    refine ⟨by omega, fun s hs => ?_⟩
    rcases List.mem_cons.mp hs with rfl | hs
    · omega
    · have := b s hs; omega
theorem rowAt_len {p : Pic} (h : IsPic p) (y : Int) : (rowAt p y).length ≤ nS p := by
  rcases rowAt_of (p := p) (y := y) with ⟨s, a, b, c⟩ | ⟨a, b⟩
  · rw [c]; exact (len_nS h).2 s a
  · rw [b]; exact Nat.zero_le _
/-! counts -/
theorem sum_pick (a : Int) (c : Int) (f : Int → Int) (h0 : f a = 0) : ∀ Y : List Int, Y.Nodup → a ∈ Y → (Y.map fun y => if a = y then c else f y).sum = (Y.map f).sum + c
  | [], _, h => by cases h
  | y :: Y, hn, h => by
    have hn' := List.nodup_cons.mp hn
    rw [List.map_cons, List.map_cons, List.sum_cons, List.sum_cons]
    by_cases e : a = y
    · subst e
      have : (Y.map fun y => if a = y then c else f y) = Y.map f := List.map_congr_left fun y hy => if_neg fun e : a = y => hn'.1 (e ▸ hy)
      rw [this, if_pos rfl, h0]; omega
    · rw [if_neg e, sum_pick a c f h0 Y hn'.2 ((List.mem_cons.mp h).resolve_left e)]; omega
theorem cntPi_at : ∀ (p : Pic) (Y : List Int), Y.Nodup → ysNodup p → (∀ t ∈ p, t.1 ∈ Y) → cntPi p = (Y.map fun y => cntR (rowAt p y)).sum
  | [], Y, _, _, _ => by
    have : ∀ Y : List Int, (Y.map fun y => cntR (rowAt [] y)).sum = 0 := fun Y => by
      induction Y with
      | nil => rfl
      | cons y Y ih => rw [List.map_cons, List.sum_cons, ih]; rfl
    rw [this Y]
    rfl
  | t :: p, Y, hY, hp, h => by
    have hp' := List.nodup_cons.mp hp
    have e : cntPi (t :: p) = cntR t.2 + cntPi p := by simp [cntPi]
    have e2 : (fun y => cntR (rowAt (t :: p) y)) = fun y => if t.1 = y then cntR t.2 else cntR (rowAt p y) := by
      funext y
      rw [rowAt_cons]
      split <;> rfl
    rw [e, e2, sum_pick t.1 (cntR t.2) (fun y => cntR (rowAt p y)) (by rw [rowAt_none hp'.1]; rfl) Y hY (h t List.mem_cons_self), cntPi_at p Y hY hp'.2 fun s hs => h s (List.mem_cons_of_mem _ hs)]
    omega
theorem cnt_addP {p q u v : Pic} (hp : IsPic p) (hq : IsPic q) (hu : IsPic u) (hv : IsPic v)
    (h : ∀ x y, (if hasP p x y = true then 1 else 0) + (if hasP q x y = true then 1 else 0) = (if hasP u x y = true then 1 else 0) + (if hasP v x y = true then (1 : Nat) else 0)) : cntPi p + cntPi q = cntPi u + cntPi v := by
  have j1 := joinP_pic hp hq
  have j2 := joinP_pic hu hv
  have J := joinP_pic j1 j2
  have cov : ∀ {w : Pic}, IsPic w → (∀ x y, inP w x y → inP (joinP (joinP p q) (joinP u v)) x y) → ∀ t ∈ w, t.1 ∈ (joinP (joinP p q) (joinP u v)).map (·.1) := fun {w} hw hs t ht => by
    obtain ⟨hr, hn⟩ := hw.2 t ht
    obtain ⟨x, hx⟩ := row_cell hr hn
    obtain ⟨s, hs, e, _⟩ := hs x t.1 ⟨t, ht, rfl, hx⟩
    exact List.mem_map.mpr ⟨s, hs, e⟩
  rw [cntPi_at p _ J.ys hp.ys (cov hp fun x y g => (joinP_in j1 j2 x y).mpr (.inl ((joinP_in hp hq x y).mpr (.inl g)))),
    cntPi_at q _ J.ys hq.ys (cov hq fun x y g => (joinP_in j1 j2 x y).mpr (.inl ((joinP_in hp hq x y).mpr (.inr g)))),
    cntPi_at u _ J.ys hu.ys (cov hu fun x y g => (joinP_in j1 j2 x y).mpr (.inr ((joinP_in hu hv x y).mpr (.inl g)))),
    cntPi_at v _ J.ys hv.ys (cov hv fun x y g => (joinP_in j1 j2 x y).mpr (.inr ((joinP_in hu hv x y).mpr (.inr g))))]
  generalize (joinP (joinP p q) (joinP u v)).map (·.1) = Y
  have hh : ∀ {w : Pic}, IsPic w → ∀ x y, hasP w x y = hasR (rowAt w y) x := fun {w} hw x y => by rw [Bool.eq_iff_iff, hasP_iff hw, hasR_iff, inP_rowAt hw.ys]
  induction Y with
  | nil => rfl
  | cons y Y ih =>
    have := cnt_add (rowAt_row hp.rows y) (rowAt_row hq.rows y) (rowAt_row hu.rows y) (rowAt_row hv.rows y) fun x => by
      have := h x y
      rw [hh hp, hh hq, hh hu, hh hv] at this
      exact this
    simp only [List.map_cons, List.sum_cons]
    omega
/-! data -/
theorem eT_inj {a b : Int × List St2} (h : eT a = eT b) : a = b := by
  have h1 := D.tup.inj h
  have h2 := (List.cons.inj h1).1
  have h3 := (List.cons.inj (List.cons.inj h1).2).1
  exact Prod.ext (D.int.inj h2) (eR_inj h3)
theorem ePic_inj {p q : Pic} (h : ePic p = ePic q) : p = q := (List.map_inj_right fun _ _ => eT_inj).mp (D.tup.inj h)
@[simp] theorem eqD_ePic (neg : Bool) (p q : Pic) : eqD neg (ePic p) (ePic q) = .ok (.bl (if neg = true then !decide (p = q) else decide (p = q))) := by
  by_cases h : p = q
  · subst h; cases neg <;> simp
  · rw [eqD_diff neg (by decide : 4 ≤ 64) (dat_ePic 0 p) (dat_ePic 0 q) fun z => h (ePic_inj z)]
    cases neg <;> simp [h]
theorem nil_ePic : D.tup [] = ePic [] := rfl
def encD (p : Pic) : List (Key × D) := p.map fun t => (.inl t.1, eR t.2)
theorem pairs_eT : ∀ p : Pic, pairsO (p.map eT) = some (encD p)
  | [] => rfl
  | t :: p => by
    rw [List.map_cons]
    show (match keyO (.int t.1), pairsO (p.map eT) with | some k, some r => some ((k, eR t.2) :: r) | _, _ => none) = _
    rw [pairs_eT p]
    rfl
theorem look_encD (p : Pic) (y : Int) : (lookD (encD p) (.inl y)).getD (eR []) = eR (rowAt p y) := by
  induction p with
  | nil => rfl
  | cons t p ih =>
    unfold lookD at ih ⊢
    have e : encD (t :: p) = (.inl t.1, eR t.2) :: encD p := rfl
    rw [e, List.find?_cons, rowAt_cons]
    by_cases h : t.1 = y
    · simp [h]
    · simp [h]
      simpa using ih
theorem put_encD (p : Pic) (y : Int) (r : List St2) : putD (encD p) (.inl y) (eR r) = encD (putP p y r) := by
  have ha : ((encD p).any fun kv => decide (kv.1 = (.inl y : Key))) = p.any fun t => decide (t.1 = y) := by
    unfold encD
    rw [List.any_map]
    congr 1
    funext t
    simp
  unfold putD putP
  rw [ha]
  split
  · unfold encD
    rw [List.map_map, List.map_map]
    apply List.map_congr_left
    intro t _
    by_cases h : t.1 = y
    · simp [h]
    · simp [h]
  · simp [encD]
theorem merge_encD : ∀ (q p : Pic), ysNodup (p ++ q) → mergeD (encD p) (encD q) = encD (p ++ q)
  | [], p, _ => by simp [mergeD, encD]
  | t :: q, p, h => by
    have e : mergeD (encD p) (encD (t :: q)) = mergeD (putD (encD p) (.inl t.1) (eR t.2)) (encD q) := rfl
    have hy : t.1 ∉ p.map (·.1) := by
      unfold ysNodup at h
      rw [List.map_append, List.nodup_append] at h
      intro z
      exact h.2.2 _ z t.1 (by simp) rfl
    have e2 : putP p t.1 t.2 = p ++ [t] := by
      unfold putP
      rw [if_neg fun z => hy ((any_ys p t.1).mp z)]
    rw [e, put_encD, e2, merge_encD q (p ++ [t]) (by rw [List.append_assoc]; exact h)]
    simp
theorem dict_ePic {p : Pic} (h : ysNodup p) : dictD (ePic p) = .ok (.dK (encD p)) := by
  unfold dictD ePic
  show (match pairsO (p.map eT) with | some kvs => Res.ok (D.dK (mergeD [] kvs)) | none => .no) = _
  rw [pairs_eT]
  have := merge_encD p [] (by simpa using h)
  simp only [List.nil_append] at this
  show Res.ok (D.dK (mergeD (encD []) (encD p))) = _
  rw [this]
theorem items_encD (p : Pic) : (encD p).map itemD = p.map eT := by
  unfold encD
  rw [List.map_map]
  apply List.map_congr_left
  intro t _
  rfl
@[simp] theorem kGet2_encD (ga gc : Ev0 → Res D) (ρ : Ev0) (p : Pic) (y : Int) (h1 : ga ρ = .ok (.int y)) (h2 : gc ρ = .ok (.tup [])) : kGet2 ga gc ρ (.dK (encD p)) = .ok (eR (rowAt p y)) := by
  show (ga ρ).bind _ = _
  rw [h1]
  show (gc ρ).bind _ = _
  rw [h2]
  show Res.ok ((lookD (encD p) (.inl y)).getD (eR [])) = _
  rw [look_encD]
end P
namespace P
open PySem L2 FL
/-! pictures moved; how many stretches -/
def movP (dx dy : Int) (p : Pic) : Pic := p.map fun t => (t.1 + dy, movR dx t.2)
theorem movP_in (dx dy : Int) (p : Pic) (x y : Int) : inP (movP dx dy p) x y ↔ inP p (x - dx) (y - dy) := by
  unfold movP
  constructor
  · rintro ⟨t, ht, e, g⟩
    obtain ⟨u, hu, rfl⟩ := List.mem_map.mp ht
    exact ⟨u, hu, by dsimp only at e; omega, (movR_in _ _ _).mp g⟩
  · rintro ⟨u, hu, e, g⟩
    exact ⟨_, List.mem_map.mpr ⟨u, hu, rfl⟩, by dsimp only; omega, (movR_in _ _ _).mpr g⟩
theorem movP_pic {dx dy : Int} {p : Pic} (h : IsPic p) : IsPic (movP dx dy p) := by
  unfold movP
  refine ⟨List.pairwise_map.mpr (h.1.imp fun g => by show _ + dy < _ + dy; omega), fun t ht => ?_⟩
  obtain ⟨u, hu, rfl⟩ := List.mem_map.mp ht
  obtain ⟨a, b⟩ := h.2 u hu
  exact ⟨movR_row dx a, fun z => b (by unfold movR at z; simpa using z)⟩
theorem movP_nS (dx dy : Int) (p : Pic) : nS (movP dx dy p) = nS p := by
  unfold nS strOf movP
  simp only [List.flatMap_map, List.length_flatMap, List.length_map, movR]
theorem picOf_nS (ts : List Tri) : nS (picOf ts) ≤ ts.length := by
  rw [← List.length_map (f := fun t : Tri => (t.1, t.2.1)) (as := ts)]
  refine nS_le (picOf_pic ts) _ fun x y h1 h2 => ?_
  rw [picOf_in] at h1 h2
  obtain ⟨t, ht, e, g1, g2⟩ := h1
  refine List.mem_map.mpr ⟨t, ht, ?_⟩
  by_cases z : t.2.1 = x
  · rw [e, z]
  · exact absurd ⟨t, ht, e, by omega, by omega⟩ h2
theorem sub_pic {p q : Pic} (h : IsPic p) (s : List.Sublist q p) : IsPic q := ⟨h.1.sublist s, fun t ht => h.2 t (s.subset ht)⟩
theorem nS_sub {p q : Pic} (s : List.Sublist q p) : nS q ≤ nS p := by
  unfold nS strOf
  rw [List.length_flatMap, List.length_flatMap]
  induction s with
  | slnil => exact Nat.le_refl _
  | cons a _ ih => rw [List.map_cons, List.sum_cons]; omega
  | cons_cons a _ ih => rw [List.map_cons, List.map_cons, List.sum_cons, List.sum_cons]; omega
theorem nS_cons (t : Int × List St2) (p : Pic) : nS (t :: p) = t.2.length + nS p := by
  show ((t.2.map fun s => (t.1, s.1, s.2)) ++ strOf p).length = _
  rw [List.length_append, List.length_map]
  rfl
theorem nS_nil : nS [] = 0 := rfl
@[simp] theorem addD_ePic (p q : Pic) : addD (ePic p) (ePic q) = if p.length + q.length ≤ sizeLine then .ok (ePic (p ++ q)) else .no := by simp [ePic]
theorem cutX_sub {α : Type} (xs : List α) (lo hi : Option Int) : List.Sublist (cutX xs lo hi) xs := (List.take_sublist _ _).trans (List.drop_sublist _ _)
theorem slT_ePic (p : Pic) (lo hi : Option Int) : slT (ePic p) lo hi = .ok (ePic (cutX p lo hi)) := by simp [ePic]
end P
namespace P
open PySem L2 FL
/-! classes of what touches -/
section
variable {α : Type} (t : α → α → Bool)
abbrev Mem (α : Type) := α × Option Nat
/-- one place after the other: what it touches comes in -/
def growL : Nat → Nat → List (Mem α) → List α → List (Mem α) × List α
  | 0, _, m, l => (m, l)
  | f + 1, p, m, l => match m[p]? with
    | none => (m, l)
    | some x => growL f (p + 1) (m ++ (l.filter fun o => t x.1 o).map fun o => (o, some p)) (l.filter fun o => !t x.1 o)
def classL : Nat → List α → List (List (Mem α))
  | 0, _ => []
  | _, [] => []
  | f + 1, a :: l => (growL t (l.length + 1) 0 [(a, none)] l).1 :: classL f (growL t (l.length + 1) 0 [(a, none)] l).2
def classes (l : List α) : List (List (Mem α)) := classL t l.length l
/-- a way by touching, within l -/
inductive Way (l : List α) : α → α → Prop
  | refl {a : α} : a ∈ l → Way l a a
  | step {a b c : α} : Way l a b → c ∈ l → t b c = true → Way l a c
variable {t}
theorem Way.mem_r {l : List α} {a b : α} (w : Way t l a b) : b ∈ l := by cases w <;> assumption
theorem Way.mem_l {l : List α} {a b : α} (w : Way t l a b) : a ∈ l := by induction w <;> assumption
theorem Way.mono {l m : List α} (h : ∀ x ∈ l, x ∈ m) {a b : α} (w : Way t l a b) : Way t m a b := by
  induction w with
  | refl ha => exact .refl (h _ ha)
  | step _ hc tc ih => exact .step ih (h _ hc) tc
theorem Way.trans {l : List α} {a b c : α} (w : Way t l a b) (v : Way t l b c) : Way t l a c := by
  induction v with
  | refl _ => exact w
  | step _ hc tc ih => exact .step ih hc tc
theorem Way.one {l : List α} {a b : α} (ha : a ∈ l) (hb : b ∈ l) (h : t a b = true) : Way t l a b := .step (.refl ha) hb h
theorem Way.symm (hs : ∀ a b, t a b = t b a) {l : List α} {a b : α} (w : Way t l a b) : Way t l b a := by
  induction w with
  | refl ha => exact .refl ha
  | step w hc tc ih => exact (Way.one hc w.mem_r (by rw [hs]; exact tc)).trans ih
/-- what is kept while a class grows: from a, out of l0 -/
structure Grow (t : α → α → Bool) (a : α) (l0 : List α) (p : Nat) (m : List (Mem α)) (l : List α) : Prop where
  hd : ∃ r, m = (a, none) :: r
  perm : (m.map (·.1) ++ l).Perm (a :: l0)
  sub : List.Sublist l l0
  le : p ≤ m.length
  apart : ∀ i, i < p → ∀ x, m[i]? = some x → ∀ o ∈ l, t x.1 o = false
  link : ∀ k, 0 < k → ∀ x, m[k]? = some x → ∃ j, x.2 = some j ∧ j < k ∧ j < p ∧ (∀ y, m[j]? = some y → t y.1 x.1 = true) ∧ ∀ i, i < j → ∀ y, m[i]? = some y → t y.1 x.1 = false
  ord : ∀ i k, 0 < i → i < k → ∀ x y, m[i]? = some x → m[k]? = some y → ∃ j j', x.2 = some j ∧ y.2 = some j' ∧ j ≤ j' ∧ (j = j' → List.Sublist [x.1, y.1] l0)
theorem Grow.start (a : α) (l0 : List α) : Grow t a l0 0 [(a, none)] l0 where
  hd := ⟨[], rfl⟩
  perm := List.Perm.refl _
  sub := List.Sublist.refl _
  le := Nat.zero_le _
  apart := fun i h => by omega
  link := fun k hk x hx => by rw [List.getElem?_eq_none (by simp; omega)] at hx; cases hx
  ord := fun i k hi hk x y hx hy => by rw [List.getElem?_eq_none (by simp; omega)] at hx; cases hx
theorem filter_perm (f : α → Bool) : ∀ l : List α, ((l.filter f) ++ l.filter fun o => !f o).Perm l
  | [] => List.Perm.refl _
  | x :: l => by
    have ih := filter_perm f l
    cases h : f x with
    | true => simp [List.filter_cons, h]; exact ih
    | false =>
      simp [List.filter_cons, h]
      exact List.perm_middle.trans (List.Perm.cons _ ih)
theorem Grow.next {a : α} {l0 : List α} {p : Nat} {m : List (Mem α)} {l : List α} (g : Grow t a l0 p m l) {x : Mem α} (hx : m[p]? = some x) :
    Grow t a l0 (p + 1) (m ++ (l.filter fun o => t x.1 o).map fun o => (o, some p)) (l.filter fun o => !t x.1 o) where
  hd := by
    obtain ⟨r, e⟩ := g.hd
    exact ⟨r ++ (l.filter fun o => t x.1 o).map fun o => (o, some p), by rw [e]; rfl⟩
  perm := by
    have e : ((l.filter fun o => t x.1 o).map fun o => ((o, some p) : Mem α)).map (·.1) = l.filter fun o => t x.1 o := by rw [List.map_map]; exact List.map_id' _
    rw [List.map_append, e, List.append_assoc]
    exact ((filter_perm (fun o => t x.1 o) l).append_left _).trans g.perm
  sub := List.filter_sublist.trans g.sub
  le := by
    have : p < m.length := (List.getElem?_eq_some_iff.mp hx).1
    rw [List.length_append]; omega
  apart := fun i hi y hy o ho => by
    have hlt : p < m.length := (List.getElem?_eq_some_iff.mp hx).1
    rw [List.getElem?_append_left (by omega)] at hy
    have ho' := List.mem_filter.mp ho
    by_cases h : i = p
    · subst h
      rw [hx] at hy; cases hy
      simpa using ho'.2
    · exact g.apart i (by omega) y hy o ho'.1
  link := fun k hk y hy => by
    have hlt : p < m.length := (List.getElem?_eq_some_iff.mp hx).1
    by_cases h : k < m.length
    · rw [List.getElem?_append_left h] at hy
      obtain ⟨j, e1, e2, e3, e4, e5⟩ := g.link k hk y hy
      refine ⟨j, e1, e2, by omega, fun z hz => ?_, fun i hi z hz => ?_⟩
      · rw [List.getElem?_append_left (by omega)] at hz; exact e4 z hz
      · rw [List.getElem?_append_left (by omega)] at hz; exact e5 i hi z hz
    · rw [List.getElem?_append_right (by omega), List.getElem?_map, Option.map_eq_some_iff] at hy
      obtain ⟨o, ho, rfl⟩ := hy
      have hm := List.mem_filter.mp (List.mem_of_getElem? ho)
      refine ⟨p, rfl, by omega, by omega, fun z hz => ?_, fun i hi z hz => ?_⟩
      · rw [List.getElem?_append_left hlt, hx] at hz; cases hz; exact hm.2
      · rw [List.getElem?_append_left (by omega)] at hz
        exact g.apart i hi z hz o hm.1
  ord := fun i k hi hk y z hy hz => by
    have hlt : p < m.length := (List.getElem?_eq_some_iff.mp hx).1
    by_cases h1 : k < m.length
    · rw [List.getElem?_append_left (by omega)] at hy
      rw [List.getElem?_append_left h1] at hz
      exact g.ord i k hi hk y z hy hz
    · have hz2 := hz
      rw [List.getElem?_append_right (by omega), List.getElem?_map, Option.map_eq_some_iff] at hz
      obtain ⟨o, ho, rfl⟩ := hz
      by_cases h2 : i < m.length
      · rw [List.getElem?_append_left h2] at hy
        obtain ⟨j, e1, e2, e3, _⟩ := g.link i hi y hy
        exact ⟨j, p, e1, rfl, by omega, fun e => by omega⟩
      · rw [List.getElem?_append_right (by omega), List.getElem?_map, Option.map_eq_some_iff] at hy
        obtain ⟨u, hu, rfl⟩ := hy
        refine ⟨p, p, rfl, rfl, Nat.le_refl _, fun _ => ?_⟩
        refine List.Sublist.trans ?_ (List.filter_sublist (p := fun o => t x.1 o) |>.trans g.sub)
        generalize l.filter (fun o => t x.1 o) = w at hu ho
        obtain ⟨hiw, e1⟩ := List.getElem?_eq_some_iff.mp hu
        obtain ⟨hkw, e2⟩ := List.getElem?_eq_some_iff.mp ho
        have e3 : w = w.take (i - m.length) ++ (w[i - m.length] :: (w.drop (i - m.length + 1))) := by
          rw [← List.drop_eq_getElem_cons hiw, List.take_append_drop]
        have e4 : w[k - m.length] ∈ w.drop (i - m.length + 1) := by
          rw [List.mem_iff_getElem]
          refine ⟨k - m.length - (i - m.length + 1), by rw [List.length_drop]; omega, ?_⟩
          rw [List.getElem_drop]
          congr 1
          omega
        rw [e3, ← e1, ← e2]
        refine List.Sublist.trans ?_ (List.sublist_append_right _ _)
        exact List.Sublist.cons_cons _ (List.singleton_sublist.mpr e4)
theorem growL_all {a : α} {l0 : List α} : ∀ (f p : Nat) (m : List (Mem α)) (l : List α), Grow t a l0 p m l → m.length + l.length ≤ p + f → Grow t a l0 (growL t f p m l).1.length (growL t f p m l).1 (growL t f p m l).2
  | 0, p, m, l, g, h => by
    have := g.le
    have e : p = m.length := by omega
    show Grow t a l0 m.length m l
    rw [← e]; exact g
  | f + 1, p, m, l, g, h => by
    unfold growL
    cases hx : m[p]? with
    | none =>
      have h1 := List.getElem?_eq_none_iff.mp hx
      have := g.le
      have e : p = m.length := by omega
      show Grow t a l0 m.length m l
      rw [← e]; exact g
    | some x =>
      refine growL_all f (p + 1) _ _ (g.next hx) ?_
      have := (filter_perm (fun o => t x.1 o) l).length_eq
      rw [List.length_append] at this ⊢
      rw [List.length_map]
      omega
/-- a class, whole -/
structure Class (t : α → α → Bool) (a : α) (l0 : List α) (m : List (Mem α)) (l : List α) : Prop extends Grow t a l0 m.length m l where
theorem growL_class (a : α) (l0 : List α) : Class t a l0 (growL t (l0.length + 1) 0 [(a, none)] l0).1 (growL t (l0.length + 1) 0 [(a, none)] l0).2 :=
  ⟨growL_all _ 0 _ _ (Grow.start a l0) (by simp; omega)⟩
theorem Class.way {a : α} {l0 l : List α} {m : List (Mem α)} (c : Class t a l0 m l) : ∀ (k : Nat) (x : Mem α), m[k]? = some x → Way t (a :: l0) a x.1 := by
  intro k
  induction k using Nat.strongRecOn with
  | ind k ih =>
    intro x hx
    have hm : x.1 ∈ a :: l0 := c.perm.mem_iff.mp (List.mem_append_left _ (List.mem_map.mpr ⟨x, List.mem_of_getElem? hx, rfl⟩))
    by_cases hk : k = 0
    · subst hk
      obtain ⟨r, e⟩ := c.hd
      rw [e] at hx
      cases hx
      exact .refl hm
    · obtain ⟨j, e1, e2, e3, e4, _⟩ := c.link k (by omega) x hx
      have hj : m[j]? = some m[j] := List.getElem?_eq_getElem e3
      exact .step (ih j e2 _ hj) hm (e4 _ hj)
/-- nothing that is left touches what is in -/
theorem Class.off {a : α} {l0 l : List α} {m : List (Mem α)} (c : Class t a l0 m l) {x : Mem α} (hx : x ∈ m) {o : α} (ho : o ∈ l) : t x.1 o = false := by
  obtain ⟨i, hi, e⟩ := List.mem_iff_getElem.mp hx
  exact c.apart i hi x (by rw [List.getElem?_eq_getElem hi, e]) o ho
theorem Class.mem {a : α} {l0 l : List α} {m : List (Mem α)} (c : Class t a l0 m l) {x : α} : x ∈ a :: l0 ↔ x ∈ m.map (·.1) ∨ x ∈ l := by
  rw [← c.perm.mem_iff, List.mem_append]
/-- who is reached from the first one is in -/
theorem Class.inn {a : α} {l0 l : List α} {m : List (Mem α)} (c : Class t a l0 m l) {x y : α} (w : Way t (a :: l0) x y) (hx : x ∈ m.map (·.1)) : y ∈ m.map (·.1) := by
  induction w with
  | refl _ => exact hx
  | step w hc tc ih =>
    rcases c.mem.mp hc with h | h
    · exact h
    · obtain ⟨z, hz, e⟩ := List.mem_map.mp ih
      have := c.off hz h
      rw [e, tc] at this
      cases this
theorem classL_nil (f : Nat) : classL t f [] = [] := by cases f <;> rfl
/-- the classes of a list -/
inductive Cls (t : α → α → Bool) : List α → List (List (Mem α)) → Prop
  | nil : Cls t [] []
  | cons {a : α} {l0 l : List α} {m : List (Mem α)} {cs : List (List (Mem α))} : Class t a l0 m l → Cls t l cs → Cls t (a :: l0) (m :: cs)
theorem Class.len {a : α} {l0 l : List α} {m : List (Mem α)} (c : Class t a l0 m l) : m.length + l.length = l0.length + 1 ∧ 0 < m.length := by
  have := c.perm.length_eq
  rw [List.length_append, List.length_map, List.length_cons] at this
  obtain ⟨r, e⟩ := c.hd
  rw [e] at this ⊢
  simp at this ⊢
  omega
theorem classL_cls : ∀ (f : Nat) (l : List α), l.length ≤ f → Cls t l (classL t f l)
  | f, [], _ => by rw [classL_nil]; exact .nil
  | 0, a :: l, h => by simp at h
  | f + 1, a :: l, h => by
    have c := growL_class (t := t) a l
    have := c.len
    rw [List.length_cons] at h
    exact .cons c (classL_cls f _ (by omega))
theorem classes_cls (l : List α) : Cls t l (classes t l) := classL_cls l.length l (Nat.le_refl _)
theorem Cls.mem {l : List α} {cs : List (List (Mem α))} (h : Cls t l cs) {x : α} : x ∈ l ↔ ∃ m ∈ cs, x ∈ m.map (·.1) := by
  induction h with
  | nil => simp
  | @cons a l0 l m cs c _ ih =>
    rw [c.mem, ih]
    constructor
    · rintro (h | ⟨m', h1, h2⟩)
      · exact ⟨m, List.mem_cons_self, h⟩
      · exact ⟨m', List.mem_cons_of_mem _ h1, h2⟩
    · rintro ⟨m', h1, h2⟩
      rcases List.mem_cons.mp h1 with rfl | h1
      · exact .inl h2
      · exact .inr ⟨m', h1, h2⟩
theorem Cls.perm {l : List α} {cs : List (List (Mem α))} (h : Cls t l cs) : (cs.flatMap fun m => m.map (·.1)).Perm l := by
  induction h with
  | nil => exact List.Perm.refl _
  | @cons a l0 l m cs c _ ih =>
    rw [List.flatMap_cons]
    exact (ih.append_left _).trans c.perm
/-- each class: its first, where its places come from -/
theorem Cls.each {l : List α} {cs : List (List (Mem α))} (h : Cls t l cs) : ∀ m ∈ cs, ∃ a l0 l', Class t a l0 m l' ∧ List.Sublist (a :: l0) l := by
  induction h with
  | nil => intro m h; cases h
  | @cons a l0 l m cs c _ ih =>
    intro m' hm
    rcases List.mem_cons.mp hm with rfl | hm
    · exact ⟨a, l0, l, c, List.Sublist.refl _⟩
    · obtain ⟨b, l1, l2, h1, h2⟩ := ih m' hm
      exact ⟨b, l1, l2, h1, h2.trans (c.sub.trans (List.sublist_cons_self _ _))⟩
/-- in one class: a way leads from the one to the other -/
theorem Cls.way (hs : ∀ a b, t a b = t b a) {l : List α} {cs : List (List (Mem α))} (h : Cls t l cs) {m : List (Mem α)} (hm : m ∈ cs) {x y : α} (hx : x ∈ m.map (·.1)) (hy : y ∈ m.map (·.1)) : Way t l x y := by
  obtain ⟨a, l0, l', c, s⟩ := h.each m hm
  have key : ∀ z ∈ m.map (·.1), Way t (a :: l0) a z := fun z hz => by
    obtain ⟨u, hu, rfl⟩ := List.mem_map.mp hz
    obtain ⟨i, hi, e⟩ := List.mem_iff_getElem.mp hu
    exact c.way i u (by rw [List.getElem?_eq_getElem hi, e])
  exact (((key x hx).symm hs).trans (key y hy)).mono fun z hz => s.subset hz
/-- no two classes touch -/
theorem Cls.apart {l : List α} {cs : List (List (Mem α))} (h : Cls t l cs) : cs.Pairwise fun m n => ∀ x ∈ m.map (·.1), ∀ y ∈ n.map (·.1), t x y = false := by
  induction h with
  | nil => exact .nil
  | @cons a l0 l m cs c hc ih =>
    refine List.pairwise_cons.mpr ⟨fun n hn x hx y hy => ?_, ih⟩
    obtain ⟨u, hu, rfl⟩ := List.mem_map.mp hx
    exact c.off hu (hc.mem.mpr ⟨n, hn, hy⟩)
/-- a way never leaves a class -/
theorem Cls.stay (hs : ∀ a b, t a b = t b a) {l : List α} {cs : List (List (Mem α))} (h : Cls t l cs) {m : List (Mem α)} (hm : m ∈ cs) {x y : α} (w : Way t l x y) (hx : x ∈ m.map (·.1)) : y ∈ m.map (·.1) := by
  induction w with
  | refl _ => exact hx
  | @step b c w hc tc ih =>
    obtain ⟨n, hn, hy⟩ := h.mem.mp hc
    obtain ⟨i, hi, e1⟩ := List.mem_iff_getElem.mp hm
    obtain ⟨j, hj, e2⟩ := List.mem_iff_getElem.mp hn
    rcases Nat.lt_trichotomy i j with z | z | z
    · have := List.pairwise_iff_getElem.mp h.apart i j hi hj z b (by rw [e1]; exact ih) c (by rw [e2]; exact hy)
      rw [tc] at this; cases this
    · subst z
      rw [e1] at e2
      rw [e2]; exact hy
    · have := List.pairwise_iff_getElem.mp h.apart j i hj hi z c (by rw [e2]; exact hy) b (by rw [e1]; exact ih)
      rw [hs, tc] at this; cases this
/-- the first ones rise as the list does -/
theorem Cls.firsts {l : List α} {cs : List (List (Mem α))} (h : Cls t l cs) : List.Sublist (cs.filterMap fun m => m.head?.map (·.1)) l := by
  induction h with
  | nil => exact List.Sublist.refl _
  | @cons a l0 l m cs c hc ih =>
    obtain ⟨r, e⟩ := c.hd
    subst e
    exact List.Sublist.cons_cons _ (ih.trans c.sub)
end
/-! stretches that touch -/
def touchT (s : Int) (a b : Tri) : Bool := decide ((a.1 - b.1).natAbs = 1) && (decide (a.2.1 ≤ b.2.2 + s) && decide (b.2.1 ≤ a.2.2 + s))
theorem touchT_symm (s : Int) (a b : Tri) : touchT s a b = touchT s b a := by
  unfold touchT
  rw [show (a.1 - b.1).natAbs = (b.1 - a.1).natAbs by omega]
  cases decide ((b.1 - a.1).natAbs = 1) <;> cases decide (a.2.1 ≤ b.2.2 + s) <;> cases decide (b.2.1 ≤ a.2.2 + s) <;> rfl
def plD : Option Nat → D
  | none => .non
  | some j => .int (j : Nat)
def eMb (x : Mem Tri) : D := .tup [.int x.1.1, .int x.1.2.1, .int x.1.2.2, plD x.2]
@[simp] theorem eTr_0 (t : Tri) : ixD (eTr t) (.int 0) = .ok (.int t.1) := by simp [eTr]
@[simp] theorem eTr_1 (t : Tri) : ixD (eTr t) (.int 1) = .ok (.int t.2.1) := by simp [eTr]
@[simp] theorem eTr_2 (t : Tri) : ixD (eTr t) (.int 2) = .ok (.int t.2.2) := (rfl)
@[simp] theorem eMb_0 (t : Mem Tri) : ixD (eMb t) (.int 0) = .ok (.int t.1.1) := by simp [eMb]
@[simp] theorem eMb_1 (t : Mem Tri) : ixD (eMb t) (.int 1) = .ok (.int t.1.2.1) := by simp [eMb]
@[simp] theorem eMb_2 (t : Mem Tri) : ixD (eMb t) (.int 2) = .ok (.int t.1.2.2) := (rfl)
@[simp] theorem eMb_3 (t : Mem Tri) : ixD (eMb t) (.int 3) = .ok (plD t.2) := (rfl)
@[simp] theorem bTup_eMb (bs : List D → Ev0 → Res Ev0) (t : Mem Tri) (ρ : Ev0) : bTup 4 bs (eMb t) ρ = bs [.int t.1.1, .int t.1.2.1, .int t.1.2.2, plD t.2] ρ := (rfl)
end P
namespace P
open PySem L2 FL
/-! gaps, open ones, holes -/
def gapsP (p : Pic) : List Tri := p.flatMap fun t => (gapsR t.2).map fun s => (t.1, s.1, s.2)
theorem gapsC_iff : ∀ (r : List St2), IsRow r → ∀ a b : Int, (a, b) ∈ gapsC r ↔ a ≤ b ∧ inR r (a - 1) ∧ inR r (b + 1) ∧ ∀ x, a ≤ x → x ≤ b → ¬ inR r x
  | [], _, a, b => by
    simp [gapsC, inR]
  | [q], h, a, b => by
    constructor
    · intro z; simp [gapsC] at z
    · rintro ⟨h0, h1, h2, h3⟩
      simp only [inR, List.mem_singleton, exists_eq_left] at h1 h2 h3
      exact absurd ⟨by omega, by omega⟩ (h3 a (Int.le_refl _) h0)
  | q :: q2 :: r, h, a, b => by
    have ih := gapsC_iff (q2 :: r) h.tail a b
    have hq := (List.pairwise_cons.mp h.1).1 q2 List.mem_cons_self
    have o1 := h.2 q List.mem_cons_self
    have o2 := h.2 q2 (List.mem_cons_of_mem _ List.mem_cons_self)
    have ab := fun x g => h.above (x := x) g
    have e : gapsC (q :: q2 :: r) = (q.2 + 1, q2.1 - 1) :: gapsC (q2 :: r) := rfl
    rw [e, List.mem_cons, ih]
    constructor
    · rintro (h1 | ⟨h0, h1, h2, h3⟩)
      · have e1 := congrArg Prod.fst h1
        have e2 := congrArg Prod.snd h1
        dsimp only at e1 e2
        refine ⟨by omega, (inR_cons _ _ _).mpr (.inl ⟨by omega, by omega⟩), (inR_cons _ _ _).mpr (.inr ((inR_cons _ _ _).mpr (.inl ⟨by omega, by omega⟩))), fun x g1 g2 g => ?_⟩
        rcases (inR_cons _ _ _).mp g with g | g
        · omega
        · rcases (inR_cons _ _ _).mp g with g | g
          · omega
          · have := h.tail.above g; omega
      · refine ⟨h0, (inR_cons _ _ _).mpr (.inr h1), (inR_cons _ _ _).mpr (.inr h2), fun x g1 g2 g => ?_⟩
        rcases (inR_cons _ _ _).mp g with g | g
        · have := ab _ h1; omega
        · exact h3 x g1 g2 g
    · rintro ⟨h0, h1, h2, h3⟩
      have n2 : ¬ inR (q2 :: r) a := fun g => h3 a (Int.le_refl _) h0 ((inR_cons _ _ _).mpr (.inr g))
      have nb : ∀ x, a ≤ x → x ≤ b → ¬ inR (q2 :: r) x := fun x g1 g2 g => h3 x g1 g2 ((inR_cons _ _ _).mpr (.inr g))
      rcases (inR_cons _ _ _).mp h2 with g2 | g2
      · rcases (inR_cons _ _ _).mp h1 with g1 | g1
        · exact absurd ((inR_cons _ _ _).mpr (.inl ⟨by omega, by omega⟩)) (h3 a (Int.le_refl _) h0)
        · have := ab _ g1; omega
      · rcases (inR_cons _ _ _).mp h1 with g1 | g1
        · left
          have na : ¬ (q.1 ≤ a ∧ a ≤ q.2) := fun z => h3 a (Int.le_refl _) h0 ((inR_cons _ _ _).mpr (.inl z))
          have b1 : b + 1 = q2.1 := by
            have lo : q2.1 ≤ b + 1 := by
              rcases (inR_cons _ _ _).mp g2 with g | g
              · exact g.1
              · have := h.tail.above g; omega
            by_cases z : q2.1 ≤ b
            · exact absurd ((inR_cons _ _ _).mpr (.inl ⟨Int.le_refl _, o2⟩)) (nb q2.1 (by omega) z)
            · omega
          exact Prod.ext (by dsimp only; omega) (by dsimp only; omega)
        · exact .inr ⟨h0, g1, g2, nb⟩
theorem gapsP_iff {p : Pic} (h : IsPic p) (y a b : Int) : (y, a, b) ∈ gapsP p ↔ a ≤ b ∧ inP p (a - 1) y ∧ inP p (b + 1) y ∧ ∀ x, a ≤ x → x ≤ b → ¬ inP p x y := by
  unfold gapsP
  rw [List.mem_flatMap]
  constructor
  · rintro ⟨t, ht, hs⟩
    obtain ⟨s, hs1, e⟩ := List.mem_map.mp hs
    cases e
    rw [gapsR_c] at hs1
    obtain ⟨h0, h1, h2, h3⟩ := (gapsC_iff t.2 (h.2 t ht).1 s.1 s.2).mp hs1
    exact ⟨h0, (row_of_pic h ht _).mpr h1, (row_of_pic h ht _).mpr h2, fun x g1 g2 g => h3 x g1 g2 ((row_of_pic h ht _).mp g)⟩
  · rintro ⟨h0, ⟨t, ht, rfl, h1⟩, h2, h3⟩
    rw [row_of_pic h ht] at h2
    refine ⟨t, ht, List.mem_map.mpr ⟨(a, b), ?_, rfl⟩⟩
    rw [gapsR_c]
    exact (gapsC_iff t.2 (h.2 t ht).1 a b).mpr ⟨h0, h1, h2, fun x g1 g2 g => h3 x g1 g2 ((row_of_pic h ht _).mpr g)⟩
def outR (r : List St2) (lo hi : Int) : Bool := match r with
  | [] => true
  | a :: t => decide (lo < a.1) || decide (((a :: t).getLast (List.cons_ne_nil _ _)).2 < hi)
def openG (p : Pic) (g : Tri) : Bool := outR (rowAt p (g.1 - 1)) g.2.1 g.2.2 || outR (rowAt p (g.1 + 1)) g.2.1 g.2.2
theorem getLast_max : ∀ {r : List St2}, IsRow r → ∀ hn : r ≠ [], ∀ x, inR r x → x ≤ (r.getLast hn).2
  | [q], h, _, x, g => by
    rcases (inR_cons _ _ _).mp g with g | g
    · exact g.2
    · exact absurd g (inR_nil x)
  | q :: q2 :: r, h, hn, x, g => by
    rw [List.getLast_cons (List.cons_ne_nil _ _)]
    rcases (inR_cons _ _ _).mp g with g | g
    · have := (List.pairwise_cons.mp h.1).1 q2 List.mem_cons_self
      have o := h.2 q2 (List.mem_cons_of_mem _ List.mem_cons_self)
      have := getLast_max h.tail (List.cons_ne_nil _ _) q2.1 ⟨q2, List.mem_cons_self, Int.le_refl _, o⟩
      omega
    · exact getLast_max h.tail (List.cons_ne_nil _ _) x g
theorem outR_iff {r : List St2} (h : IsRow r) (lo hi : Int) : outR r lo hi = false ↔ (∃ x, x ≤ lo ∧ inR r x) ∧ ∃ x, hi ≤ x ∧ inR r x := by
  cases r with
  | nil => simp [outR, inR]
  | cons a t =>
    unfold outR
    rw [Bool.or_eq_false_iff, decide_eq_false_iff_not, decide_eq_false_iff_not]
    have o := h.2 a List.mem_cons_self
    have ol := h.2 _ (List.getLast_mem (List.cons_ne_nil a t))
    constructor
    · rintro ⟨h1, h2⟩
      exact ⟨⟨a.1, by omega, a, List.mem_cons_self, Int.le_refl _, o⟩, ⟨_, by omega, _, List.getLast_mem (List.cons_ne_nil a t), ol, Int.le_refl _⟩⟩
    · rintro ⟨⟨x, h1, g1⟩, ⟨x', h2, g2⟩⟩
      have := getLast_max h (List.cons_ne_nil a t) x' g2
      refine ⟨?_, by omega⟩
      rcases (inR_cons _ _ _).mp g1 with g | g
      · omega
      · have := h.above g; omega
/-- in the next row there are cells on both sides -/
def shutAt (p : Pic) (y lo hi : Int) : Prop := (∃ x, x ≤ lo ∧ inP p x y) ∧ ∃ x, hi ≤ x ∧ inP p x y
theorem openG_iff {p : Pic} (h : IsPic p) (g : Tri) : openG p g = false ↔ shutAt p (g.1 - 1) g.2.1 g.2.2 ∧ shutAt p (g.1 + 1) g.2.1 g.2.2 := by
  unfold openG shutAt
  rw [Bool.or_eq_false_iff, outR_iff (rowAt_row h.rows _), outR_iff (rowAt_row h.rows _)]
  simp only [inP_rowAt h.ys]
def holesP (p : Pic) : List (List (Mem Tri)) := (classes (touchT 0) (gapsP p)).filter fun m => !(m.map fun x => openG p x.1).any id
/-- the gaps that no way leads out of -/
def shutG (p : Pic) (g : Tri) : Prop := g ∈ gapsP p ∧ ∀ o, openG p o = true → ¬ Way (touchT 0) (gapsP p) o g
theorem holes_iff {p : Pic} (g : Tri) : (∃ m ∈ holesP p, g ∈ m.map (·.1)) ↔ shutG p g := by
  have hc := classes_cls (t := touchT 0) (gapsP p)
  constructor
  · rintro ⟨m, hm, hg⟩
    obtain ⟨h1, h2⟩ := List.mem_filter.mp hm
    refine ⟨hc.mem.mpr ⟨m, h1, hg⟩, fun o ho w => ?_⟩
    have := hc.stay (touchT_symm 0) h1 (w.symm (touchT_symm 0)) hg
    obtain ⟨x, hx, e⟩ := List.mem_map.mp this
    have h3 : (m.map fun x => openG p x.1).any id = true := List.any_eq_true.mpr ⟨true, List.mem_map.mpr ⟨x, hx, by rw [e]; exact ho⟩, rfl⟩
    rw [h3] at h2
    cases h2
  · rintro ⟨h1, h2⟩
    obtain ⟨m, hm, hg⟩ := hc.mem.mp h1
    refine ⟨m, List.mem_filter.mpr ⟨hm, ?_⟩, hg⟩
    cases h3 : (m.map fun x => openG p x.1).any id with
    | false => rfl
    | true =>
      obtain ⟨b, hb, e⟩ := List.any_eq_true.mp h3
      obtain ⟨x, hx, e2⟩ := List.mem_map.mp hb
      have : openG p x.1 = true := by rw [e2]; exact e
      exact absurd (hc.way (touchT_symm 0) hm (List.mem_map.mpr ⟨x, hx, rfl⟩) hg) (h2 x.1 this)
/-- q: p with its holes in -/
structure Fills (p q : Pic) : Prop where
  pic : IsPic q
  inn : ∀ x y, inP q x y ↔ inP p x y ∨ ∃ g, shutG p g ∧ g.1 = y ∧ g.2.1 ≤ x ∧ x ≤ g.2.2
theorem gap_same {p : Pic} (h : IsPic p) {g k : Tri} (hg : g ∈ gapsP p) (hk : k ∈ gapsP p) (hy : g.1 = k.1) {x : Int} (h1 : g.2.1 ≤ x) (h2 : x ≤ g.2.2) (h3 : k.2.1 ≤ x) (h4 : x ≤ k.2.2) : g = k := by
  obtain ⟨gy, ga, gb⟩ := g
  obtain ⟨ky, ka, kb⟩ := k
  dsimp only at *
  subst hy
  obtain ⟨a0, a1, a2, a3⟩ := (gapsP_iff h gy ga gb).mp hg
  obtain ⟨b0, b1, b2, b3⟩ := (gapsP_iff h gy ka kb).mp hk
  have e1 : ga = ka := by
    rcases Int.lt_trichotomy ga ka with z | z | z
    · exact absurd b1 (a3 (ka - 1) (by omega) (by omega))
    · exact z
    · exact absurd a1 (b3 (ga - 1) (by omega) (by omega))
  have e2 : gb = kb := by
    rcases Int.lt_trichotomy gb kb with z | z | z
    · exact absurd a2 (b3 (gb + 1) (by omega) (by omega))
    · exact z
    · exact absurd b2 (a3 (kb + 1) (by omega) (by omega))
  rw [e1, e2]
theorem Fills.gaps {p q : Pic} (h : IsPic p) (f : Fills p q) (g : Tri) : g ∈ gapsP q ↔ g ∈ gapsP p ∧ ¬ shutG p g := by
  obtain ⟨y, a, b⟩ := g
  rw [gapsP_iff f.pic]
  constructor
  · rintro ⟨h0, h1, h2, h3⟩
    have n : ∀ x, a ≤ x → x ≤ b → ¬ inP p x y := fun x g1 g2 g => h3 x g1 g2 ((f.inn x y).mpr (.inl g))
    have e1 : inP p (a - 1) y := by
      rcases (f.inn _ _).mp h1 with g | ⟨k, hk, e, g1, g2⟩
      · exact g
      · obtain ⟨k0, k1, k2, k3⟩ := (gapsP_iff h k.1 k.2.1 k.2.2).mp hk.1
        by_cases z : a ≤ k.2.2
        · exact absurd ((f.inn a y).mpr (.inr ⟨k, hk, e, by omega, z⟩)) (h3 a (Int.le_refl _) h0)
        · have : k.2.2 + 1 = a := by omega
          rw [this, e] at k2
          exact absurd k2 (n a (Int.le_refl _) h0)
    have e2 : inP p (b + 1) y := by
      rcases (f.inn _ _).mp h2 with g | ⟨k, hk, e, g1, g2⟩
      · exact g
      · obtain ⟨k0, k1, k2, k3⟩ := (gapsP_iff h k.1 k.2.1 k.2.2).mp hk.1
        by_cases z : k.2.1 ≤ b
        · exact absurd ((f.inn b y).mpr (.inr ⟨k, hk, e, z, by omega⟩)) (h3 b h0 (Int.le_refl _))
        · have : k.2.1 - 1 = b := by omega
          rw [this, e] at k1
          exact absurd k1 (n b h0 (Int.le_refl _))
    refine ⟨(gapsP_iff h y a b).mpr ⟨h0, e1, e2, n⟩, fun hs => ?_⟩
    exact h3 a (Int.le_refl _) h0 ((f.inn a y).mpr (.inr ⟨_, hs, rfl, Int.le_refl _, h0⟩))
  · rintro ⟨hg, hs⟩
    obtain ⟨h0, h1, h2, h3⟩ := (gapsP_iff h y a b).mp hg
    refine ⟨h0, (f.inn _ _).mpr (.inl h1), (f.inn _ _).mpr (.inl h2), fun x g1 g2 g => ?_⟩
    rcases (f.inn _ _).mp g with g | ⟨k, hk, e, k1, k2⟩
    · exact h3 x g1 g2 g
    · have := gap_same h hk.1 hg e k1 k2 g1 g2
      rw [this] at hk
      exact hs hk
theorem Fills.shut {p q : Pic} (h : IsPic p) (f : Fills p q) (y lo hi : Int) : shutAt q y lo hi ↔ shutAt p y lo hi := by
  unfold shutAt
  constructor
  · rintro ⟨⟨x, h1, g1⟩, ⟨x', h2, g2⟩⟩
    refine ⟨?_, ?_⟩
    · rcases (f.inn _ _).mp g1 with g | ⟨k, hk, e, k1, k2⟩
      · exact ⟨x, h1, g⟩
      · obtain ⟨_, c1, _, _⟩ := (gapsP_iff h k.1 k.2.1 k.2.2).mp hk.1
        rw [e] at c1
        exact ⟨_, by omega, c1⟩
    · rcases (f.inn _ _).mp g2 with g | ⟨k, hk, e, k1, k2⟩
      · exact ⟨x', h2, g⟩
      · obtain ⟨_, _, c1, _⟩ := (gapsP_iff h k.1 k.2.1 k.2.2).mp hk.1
        rw [e] at c1
        exact ⟨_, by omega, c1⟩
  · rintro ⟨⟨x, h1, g1⟩, ⟨x', h2, g2⟩⟩
    exact ⟨⟨x, h1, (f.inn _ _).mpr (.inl g1)⟩, ⟨x', h2, (f.inn _ _).mpr (.inl g2)⟩⟩
theorem Fills.opens {p q : Pic} (h : IsPic p) (f : Fills p q) (g : Tri) : openG q g = openG p g := by
  have a := openG_iff h g
  have b := openG_iff f.pic g
  rw [f.shut h, f.shut h, ← a] at b
  cases e1 : openG q g <;> cases e2 : openG p g <;> simp_all
/-- nothing is shut in any more -/
theorem Fills.none {p q : Pic} (h : IsPic p) (f : Fills p q) (g : Tri) : ¬ shutG q g := by
  rintro ⟨h1, h2⟩
  obtain ⟨g1, g2⟩ := (f.gaps h g).mp h1
  have : ∃ o, openG p o = true ∧ Way (touchT 0) (gapsP p) o g := Classical.byContradiction fun z => g2 ⟨g1, fun o ho w => z ⟨o, ho, w⟩⟩
  obtain ⟨o, ho, w⟩ := this
  have key : ∀ b, Way (touchT 0) (gapsP p) o b → Way (touchT 0) (gapsP q) o b := fun b w => by
    induction w with
    | refl hb => exact .refl ((f.gaps h _).mpr ⟨hb, fun z => z.2 _ ho (.refl hb)⟩)
    | step w hc tc ih => exact .step ih ((f.gaps h _).mpr ⟨hc, fun z => z.2 _ ho (.step w hc tc)⟩) tc
  exact h2 o (by rw [f.opens h]; exact ho) (key g w)
theorem Fills.holes {p q : Pic} (h : IsPic p) (f : Fills p q) : holesP q = [] := by
  cases e : holesP q with
  | nil => rfl
  | cons m r =>
    have hm : m ∈ holesP q := by rw [e]; exact List.mem_cons_self
    obtain ⟨a, l0, l', c, _⟩ := (classes_cls (t := touchT 0) (gapsP q)).each m (List.mem_filter.mp hm).1
    obtain ⟨r', e2⟩ := c.hd
    exact absurd ((holes_iff a).mp ⟨m, hm, by rw [e2]; simp⟩) (f.none h a)
end P
namespace P
open PySem L2 FL
/-! flooding from some; lists that do not meet -/
section
variable {α : Type} (t : α → α → Bool)
def floodL : Nat → Nat → List α → List α → List α × List α
  | 0, _, o, l => (o, l)
  | f + 1, p, o, l => match o[p]? with
    | none => (o, l)
    | some x => floodL f (p + 1) (o ++ l.filter fun g => t x g) (l.filter fun g => !t x g)
variable {t}
theorem floodL_all {G O0 L0 : List α} : ∀ (f p : Nat) (o l : List α), o.length + l.length ≤ p + f → p ≤ o.length → (∀ x ∈ O0, x ∈ o) → (∀ x ∈ L0, x ∈ o ∨ x ∈ l) → (∀ x ∈ l, x ∈ L0) → (∀ x ∈ L0, x ∈ G) → (∀ x ∈ o, ∃ y ∈ O0, Way t G y x) → (∀ i, i < p → ∀ x, o[i]? = some x → ∀ g ∈ l, t x g = false) →
    (∀ x ∈ O0, x ∈ (floodL t f p o l).1) ∧ (∀ x ∈ L0, x ∈ (floodL t f p o l).1 ∨ x ∈ (floodL t f p o l).2) ∧ (∀ x ∈ (floodL t f p o l).2, x ∈ L0) ∧ (∀ x ∈ (floodL t f p o l).1, ∃ y ∈ O0, Way t G y x) ∧ (∀ x ∈ (floodL t f p o l).1, ∀ g ∈ (floodL t f p o l).2, t x g = false) ∧ List.Sublist (floodL t f p o l).2 l
  | 0, p, o, l, h0, h1, a, b, c, d, e, g => by
    refine ⟨a, b, c, e, fun x hx y hy => ?_, List.Sublist.refl _⟩
    obtain ⟨i, hi, q⟩ := List.mem_iff_getElem.mp hx
    have hl : 0 < l.length := List.length_pos_of_mem hy
    omega
  | f + 1, p, o, l, h0, h1, a, b, c, d, e, g => by
    unfold floodL
    cases hx : o[p]? with
    | none =>
      have hp := List.getElem?_eq_none_iff.mp hx
      dsimp only
      refine ⟨a, b, c, e, fun x hx y hy => ?_, List.Sublist.refl _⟩
      obtain ⟨i, hi, q⟩ := List.mem_iff_getElem.mp hx
      exact g i (by omega) x (by rw [List.getElem?_eq_getElem hi, q]) y hy
    | some x =>
      have hp := (List.getElem?_eq_some_iff.mp hx).1
      have hm : x ∈ o := List.mem_of_getElem? hx
      have hlen := (filter_perm (fun g => t x g) l).length_eq
      rw [List.length_append] at hlen
      obtain ⟨k1, k2, k3, k4, k5, k6⟩ := floodL_all (G := G) (O0 := O0) (L0 := L0) f (p + 1) (o ++ l.filter fun g => t x g) (l.filter fun g => !t x g) (by rw [List.length_append]; omega) (by rw [List.length_append]; omega) (fun y hy => List.mem_append_left _ (a y hy)) (fun y hy => by
        rcases b y hy with h | h
        · exact .inl (List.mem_append_left _ h)
        · cases q : t x y with
          | true => exact .inl (List.mem_append_right _ (List.mem_filter.mpr ⟨h, q⟩))
          | false => exact .inr (List.mem_filter.mpr ⟨h, by rw [q]; rfl⟩)) (fun y hy => c y (List.mem_filter.mp hy).1) d (fun y hy => by
        rcases List.mem_append.mp hy with h | h
        · exact e y h
        · obtain ⟨h1, h2⟩ := List.mem_filter.mp h
          obtain ⟨z, hz, w⟩ := e x hm
          exact ⟨z, hz, .step w (d y (c y h1)) h2⟩) (fun i hi y hy z hz => by
        obtain ⟨z1, z2⟩ := List.mem_filter.mp hz
        rw [List.getElem?_append_left (by omega)] at hy
        by_cases h : i = p
        · subst h
          rw [hx] at hy; cases hy
          simpa using z2
        · exact g i (by omega) y hy z z1)
      exact ⟨k1, k2, k3, k4, k5, k6.trans List.filter_sublist⟩
/-- what is left: what no way leads to from O0 -/
theorem floodL_left {G O0 L0 : List α} (hO : ∀ x ∈ O0, x ∈ G) (hL : ∀ x, x ∈ L0 ↔ x ∈ G ∧ x ∉ O0) (g : α) : g ∈ (floodL t (O0.length + L0.length) 0 O0 L0).2 ↔ g ∈ G ∧ ∀ o ∈ O0, ¬ Way t G o g := by
  obtain ⟨k1, k2, k3, k4, k5, _⟩ := floodL_all (t := t) (G := G) (O0 := O0) (L0 := L0) (O0.length + L0.length) 0 O0 L0 (by omega) (by omega) (fun _ h => h) (fun _ h => .inr h) (fun _ h => h) (fun x h => ((hL x).mp h).1) (fun x h => ⟨x, h, .refl (hO x h)⟩) (fun i h => by omega)
  have dj : ∀ x, x ∈ (floodL t (O0.length + L0.length) 0 O0 L0).2 → ∀ o ∈ O0, Way t G o x → False := fun x hx o ho w => by
    have key : ∀ y, Way t G o y → y ∈ (floodL t (O0.length + L0.length) 0 O0 L0).1 ∧ y ∉ (floodL t (O0.length + L0.length) 0 O0 L0).2 := fun y w => by
      induction w with
      | refl _ => exact ⟨k1 _ ho, fun z => ((hL _).mp (k3 _ z)).2 ho⟩
      | @step b c w hc tc ih =>
        have nc : c ∉ (floodL t (O0.length + L0.length) 0 O0 L0).2 := fun z => by
          have := k5 _ ih.1 _ z
          rw [tc] at this; cases this
        refine ⟨?_, nc⟩
        by_cases h : c ∈ O0
        · exact k1 _ h
        · exact (k2 _ ((hL c).mpr ⟨hc, h⟩)).resolve_right nc
    exact (key x w).2 hx
  constructor
  · intro h
    exact ⟨((hL g).mp (k3 g h)).1, fun o ho w => dj g h o ho w⟩
  · rintro ⟨h1, h2⟩
    have : g ∉ O0 := fun h => h2 g h (.refl h1)
    rcases k2 g ((hL g).mpr ⟨h1, this⟩) with h | h
    · obtain ⟨y, hy, w⟩ := k4 g h
      exact absurd w (h2 y hy)
    · exact h
end
/-- no cell in both -/
def Dj (a b : Tri) : Prop := a.1 ≠ b.1 ∨ a.2.2 < b.2.1 ∨ b.2.2 < a.2.1
theorem Dj.symm {a b : Tri} (h : Dj a b) : Dj b a := by
  rcases h with h | h | h
  · exact .inl (Ne.symm h)
  · exact .inr (.inr h)
  · exact .inr (.inl h)
theorem gaps_lt {p : Pic} (h : IsPic p) : (gapsP p).Pairwise Dj := by
  induction p with
  | nil => exact .nil
  | cons t p ih =>
    have e : gapsP (t :: p) = ((gapsR t.2).map fun s => (t.1, s.1, s.2)) ++ gapsP p := rfl
    rw [e, List.pairwise_append]
    refine ⟨?_, ih h.tail, fun a ha b hb => ?_⟩
    · rw [gapsR_c]
      refine List.pairwise_map.mpr ((gapsC_row t.2 (h.2 t List.mem_cons_self).1).1.imp fun g => .inr (.inl ?_))
      dsimp only; omega
    · obtain ⟨s, _, rfl⟩ := List.mem_map.mp ha
      obtain ⟨u, hu, hb⟩ := List.mem_flatMap.mp hb
      obtain ⟨s2, _, rfl⟩ := List.mem_map.mp hb
      have := (List.pairwise_cons.mp h.1).1 u hu
      exact .inl (by dsimp only; omega)
theorem str_dj {p : Pic} (h : IsPic p) : (strOf p).Pairwise Dj := (starts_lt h).imp fun {a b} g => by
  rcases g with g | ⟨_, g⟩
  · exact .inl (by omega)
  · exact .inr (.inl (by omega))
theorem both_dj {p : Pic} (h : IsPic p) {l : List Tri} (hl : List.Sublist l (gapsP p)) : (strOf p ++ l).Pairwise Dj := by
  rw [List.pairwise_append]
  refine ⟨str_dj h, (gaps_lt h).sublist hl, fun a ha b hb => ?_⟩
  obtain ⟨s1, _, s2, _, s3⟩ := str_start h ha
  obtain ⟨g0, g1, g2, g3⟩ := (gapsP_iff h b.1 b.2.1 b.2.2).mp (hl.subset hb)
  by_cases e : a.1 = b.1
  · right
    rw [e] at s1 s2
    by_cases z : b.2.1 ≤ a.2.2
    · right
      by_cases z2 : a.2.1 ≤ b.2.2
      · exfalso
        have hin : ∀ x, a.2.1 ≤ x → x ≤ a.2.2 → inP p x b.1 := fun x x1 x2 => by
          obtain ⟨u, hu, e2, hs⟩ := mem_strOf.mp ha
          exact ⟨u, hu, e2.trans e, a.2, hs, x1, x2⟩
        by_cases z3 : a.2.1 ≤ b.2.1
        · exact g3 b.2.1 (Int.le_refl _) g0 (hin _ z3 z)
        · exact g3 a.2.1 (by omega) z2 s1
      · omega
    · left; omega
  · exact .inl e
theorem sorted_dj {ts : List Tri} (ho : ∀ t ∈ ts, t.2.1 ≤ t.2.2) (h : ts.Pairwise Dj) : (ts.mergeSort leTr).Pairwise fun a b => a.1 < b.1 ∨ (a.1 = b.1 ∧ a.2.2 < b.2.1) := by
  have hp : (ts.mergeSort leTr).Perm ts := List.mergeSort_perm ts leTr
  have h1 : (ts.mergeSort leTr).Pairwise Dj := (hp.pairwise_iff (fun {a b} h => h.symm)).mpr h
  have h2 := List.pairwise_mergeSort (le := leTr) leTr_trans leTr_total ts
  refine List.Pairwise.imp_of_mem (fun {a b} ha hb g => ?_) (h1.and h2)
  obtain ⟨g1, g2⟩ := g
  have oa := ho a (hp.mem_iff.mp ha)
  have ob := ho b (hp.mem_iff.mp hb)
  unfold leTr at g2
  simp only [decide_eq_true_eq] at g2
  rcases g1 with g1 | g1 | g1 <;> omega
/-! the tops of rows -/
theorem cutX_init {α : Type} (xs : List α) (x : α) : cutX (xs ++ [x]) none (some (-1)) = xs := by
  unfold cutX
  have h1 : HT.sIx (xs ++ [x]).length 0 none = 0 := rfl
  have h2 : HT.sIx (xs ++ [x]).length (xs ++ [x]).length (some (-1)) = xs.length := by
    unfold HT.sIx
    dsimp only
    rw [if_pos (by decide), List.length_append, List.length_singleton]
    omega
  rw [h1, h2]
  simp
@[simp] theorem slT_eR (r : List St2) (lo hi : Option Int) : slT (eR r) lo hi = .ok (eR (cutX r lo hi)) := by simp [eR]
theorem inT0_2 (neg : Bool) (i a b : Int) : inT0 neg (.int i) [.int a, .int b] = .ok (.bl (if neg = true then !decide (i ∈ [a, b]) else decide (i ∈ [a, b]))) := rfl
theorem eTr_inj {a b : Tri} (h : eTr a = eTr b) : a = b := by
  have h1 := D.tup.inj h
  have h2 := List.cons.inj h1
  have h3 := List.cons.inj h2.2
  have h4 := List.cons.inj h3.2
  exact Prod.ext (D.int.inj h2.1) (Prod.ext (D.int.inj h3.1) (D.int.inj h4.1))
theorem inL_eTr (neg : Bool) (a : Tri) (xs : List Tri) : inL neg (eTr a) (xs.map eTr) = .ok (.bl (if neg = true then !decide (a ∈ xs) else decide (a ∈ xs))) :=
  (inL_map (enc := eTr) (f := fun t => .tuple [.int t.1, .int t.2.1, .int t.2.2]) (n := 1) (by decide) (fun x => dat_eTr 0 x) (fun x => rfl) (fun _ _ h => eTr_inj h) neg a xs).trans (congrArg (fun i : Decidable (a ∈ xs) => Res.ok (D.bl (if neg = true then !(@decide (a ∈ xs) i) else @decide (a ∈ xs) i))) (Subsingleton.elim _ _))
end P
namespace P
open PySem L2 FL
/-! rows put together from stretches that stand apart -/
def eLt (t : Int × List St2) : D := .tup [.int t.1, eR t.2.reverse]
theorem eR_last (xs : List St2) (x : St2) : ixD (eR (xs ++ [x])) (.int (-1)) = .ok (eP x) := by
  have h := atI_last (xs := (xs ++ [x]).map eP) (by simp)
  show ixD (.tup ((xs ++ [x]).map eP)) (.int (-1)) = _
  simp
theorem eR_init (xs : List St2) (x : St2) : slT (eR (xs ++ [x])) none (some (-1)) = .ok (eR xs) := by rw [slT_eR, cutX_init]
theorem eR_add (xs : List St2) (a b : Int) (h : xs.length < sizeLine) : addD (eR xs) (.tup [.tup [.int a, .int b]]) = .ok (eR (xs ++ [(a, b)])) := by
  show addD (.tup (xs.map eP)) (.tup [.tup [.int a, .int b]]) = .ok (.tup ((xs ++ [(a, b)]).map eP))
  have : xs.length + 1 ≤ sizeLine := h
  simp [eP, this]
theorem stepP_len' (p : Pic) (t : Tri) : (stepP p t).length ≤ p.length + 1 := by
  cases p with
  | nil => simp [stepP]
  | cons h r =>
    obtain ⟨y, s⟩ := h
    by_cases e : y = t.1
    · rw [show stepP ((y, s) :: r) t = (y, stepR s t.2) :: r from if_pos e]; simp
    · rw [show stepP ((y, s) :: r) t = (t.1, [t.2]) :: (y, s) :: r from if_neg e]; simp
theorem stepP_sub' {p : Pic} {t : Tri} {n : Nat} (h : ∀ u ∈ p, u.2 ≠ [] ∧ u.2.length ≤ n) : ∀ u ∈ stepP p t, u.2 ≠ [] ∧ u.2.length ≤ n + 1 := by
  intro u hu
  cases p with
  | nil =>
    have : u = (t.1, [t.2]) := by simpa [stepP] using hu
    rw [this]; simp
  | cons g r =>
    obtain ⟨y, s⟩ := g
    by_cases e : y = t.1
    · rw [show stepP ((y, s) :: r) t = (y, stepR s t.2) :: r from if_pos e] at hu
      rcases List.mem_cons.mp hu with rfl | hu
      · have h1 := h (y, s) List.mem_cons_self
        have h2 := stepR_le s t.2
        exact ⟨stepR_ne _ _, Nat.le_trans h2 (Nat.succ_le_succ h1.2)⟩
      · have := h u (List.mem_cons_of_mem _ hu); exact ⟨this.1, by omega⟩
    · rw [show stepP ((y, s) :: r) t = (t.1, [t.2]) :: (y, s) :: r from if_neg e] at hu
      rcases List.mem_cons.mp hu with rfl | hu
      · simp
      · have := h u hu; exact ⟨this.1, by omega⟩
/-- behind the last stretch -/
def Beh (p : Pic) (u : Tri) : Prop := ∀ y a s r, p = (y, a :: s) :: r → y < u.1 ∨ (y = u.1 ∧ a.2 < u.2.1)
theorem stepP_beh {p : Pic} {t u : Tri} (hne : ∀ v ∈ p, v.2 ≠ []) (ht : t.2.1 ≤ t.2.2) (hb : Beh p t) (h : t.1 < u.1 ∨ (t.1 = u.1 ∧ t.2.2 < u.2.1)) : Beh (stepP p t) u := by
  intro y a s r e
  cases p with
  | nil =>
    have e : [((t.1, [t.2]) : Int × List St2)] = (y, a :: s) :: r := e
    have e1 := (List.cons.inj e).1
    have e2 : t.1 = y := congrArg Prod.fst e1
    have e3 : [t.2] = a :: s := congrArg Prod.snd e1
    have e4 := (List.cons.inj e3).1
    rw [← e2, ← e4]; exact h
  | cons g q =>
    obtain ⟨y0, s0⟩ := g
    have hn0 := hne (y0, s0) List.mem_cons_self
    by_cases k : y0 = t.1
    · rw [show stepP ((y0, s0) :: q) t = (y0, stepR s0 t.2) :: q from if_pos k] at e
      have e1 := (List.cons.inj e).1
      have e2 : y0 = y := congrArg Prod.fst e1
      have e3 : stepR s0 t.2 = a :: s := congrArg Prod.snd e1
      cases s0 with
      | nil => exact absurd rfl hn0
      | cons l s1 =>
        have hl := hb y0 l s1 q rfl
        by_cases m : t.2.1 ≤ l.2 + 1
        · rw [stepR_hit m] at e3
          have e4 := (List.cons.inj e3).1
          rw [← e4, ← e2, k]
          dsimp only
          omega
        · rw [stepR_miss m] at e3
          have e4 := (List.cons.inj e3).1
          rw [← e4, ← e2, k]
          exact h
    · rw [show stepP ((y0, s0) :: q) t = (t.1, [t.2]) :: (y0, s0) :: q from if_neg k] at e
      have e1 := (List.cons.inj e).1
      have e2 : t.1 = y := congrArg Prod.fst e1
      have e3 : [t.2] = a :: s := congrArg Prod.snd e1
      have e4 := (List.cons.inj e3).1
      rw [← e2, ← e4]; exact h
/-! ### classes by joining marks -/
section
variable (T : Nat → Nat → Bool)
def gt (m : List Nat) (i : Nat) : Nat := m.getD i 0
def low2 (f : Nat → Nat) (lo hi x : Nat) : Nat := if x = hi then lo else x
def stepM (m : List Nat) (j k : Nat) : List Nat := if gt m j ≠ gt m k ∧ T j k = true then m.map (fun x => if x = max (gt m j) (gt m k) then min (gt m j) (gt m k) else x) else m
def rowM (k : Nat) (m : List Nat) : List Nat := (List.range k).foldl (fun m j => stepM T m j k) m
def marksM (n : Nat) : List Nat := (List.range n).foldl (fun m k => rowM T k m) (List.range n)
structure MInv (C : Nat → Nat → Prop) (n : Nat) (m : List Nat) : Prop where
  len : m.length = n
  le : ∀ i, i < n → gt m i ≤ i
  fix : ∀ i, i < n → gt m (gt m i) = gt m i
  con : ∀ i, i < n → C i (gt m i)
variable {T}
theorem gt_map {f : Nat → Nat} {m : List Nat} {i : Nat} (h : i < m.length) : gt (m.map f) i = f (gt m i) := by
  unfold gt
  rw [List.getD_eq_getElem?_getD, List.getElem?_map, List.getElem?_eq_getElem h, List.getD_eq_getElem?_getD, List.getElem?_eq_getElem h]
  rfl
theorem gt_range {n i : Nat} (h : i < n) : gt (List.range n) i = i := by
  unfold gt
  rw [List.getD_eq_getElem?_getD, List.getElem?_eq_getElem (by rw [List.length_range]; exact h)]
  simp
theorem stepM_inv {C : Nat → Nat → Prop} {n : Nat} (hs : ∀ i j, C i j → C j i) (ht : ∀ i j k, C i j → C j k → C i k) (hT : ∀ j k, j < n → k < n → T j k = true → C j k) {m : List Nat} (I : MInv C n m) {j k : Nat} (hj : j < n) (hk : k < n) :
    MInv C n (stepM T m j k) ∧ (∀ a b, a < n → b < n → gt m a = gt m b → gt (stepM T m j k) a = gt (stepM T m j k) b) ∧ (T j k = true → gt (stepM T m j k) j = gt (stepM T m j k) k) := by
  unfold stepM
  by_cases h : gt m j ≠ gt m k ∧ T j k = true
  · rw [if_pos h]
    obtain ⟨h1, h2⟩ := h
    have hjk := hT j k hj hk h2
    have cj := I.con j hj
    have ck := I.con k hk
    have fj := I.fix j hj
    have fk := I.fix k hk
    have lj := I.le j hj
    have lk := I.le k hk
    have cc : C (gt m j) (gt m k) := ht _ _ _ (hs _ _ cj) (ht _ _ _ hjk ck)
    generalize ha : gt m j = a at *
    generalize hb : gt m k = b at *
    have e : ∀ i, i < n → gt (m.map fun x => if x = max a b then min a b else x) i = if gt m i = max a b then min a b else gt m i := fun i hi => gt_map (by rw [I.len]; exact hi)
    refine ⟨⟨by rw [List.length_map]; exact I.len, fun i hi => ?_, fun i hi => ?_, fun i hi => ?_⟩, fun x y hx hy q => by rw [e x hx, e y hy, q], fun _ => ?_⟩
    · rw [e i hi]
      have := I.le i hi
      split <;> omega
    · have li := I.le i hi
      rw [e i hi]
      split
      · rename_i z
        rw [e _ (by omega)]
        have : gt m (min a b) = min a b := by
          rcases Nat.le_total a b with w | w
          · rw [Nat.min_eq_left w]; exact fj
          · rw [Nat.min_eq_right w]; exact fk
        rw [this, if_neg (by omega)]
      · rename_i z
        rw [e _ (by omega), I.fix i hi, if_neg z]
    · rw [e i hi]
      split
      · rename_i z
        have ci := I.con i hi
        rw [z] at ci
        refine ht _ _ _ ci ?_
        rcases Nat.le_total a b with w | w
        · rw [Nat.max_eq_right w, Nat.min_eq_left w]; exact hs _ _ cc
        · rw [Nat.max_eq_left w, Nat.min_eq_right w]; exact cc
      · exact I.con i hi
    · rw [e j hj, e k hk, ha, hb]
      split <;> split <;> omega
  · rw [if_neg h]
    refine ⟨I, fun a b _ _ q => q, fun q => ?_⟩
    exact Classical.byContradiction fun z => h ⟨z, q⟩
theorem rowM_inv {C : Nat → Nat → Prop} {n : Nat} (hs : ∀ i j, C i j → C j i) (ht : ∀ i j k, C i j → C j k → C i k) (hT : ∀ j k, j < n → k < n → T j k = true → C j k) {k : Nat} (hk : k < n) {m : List Nat} (I : MInv C n m) : ∀ q, q ≤ k →
    MInv C n ((List.range q).foldl (fun m j => stepM T m j k) m) ∧ (∀ a b, a < n → b < n → gt m a = gt m b → gt ((List.range q).foldl (fun m j => stepM T m j k) m) a = gt ((List.range q).foldl (fun m j => stepM T m j k) m) b) ∧ ∀ j, j < q → T j k = true → gt ((List.range q).foldl (fun m j => stepM T m j k) m) j = gt ((List.range q).foldl (fun m j => stepM T m j k) m) k
  | 0, _ => ⟨I, fun _ _ _ _ h => h, fun j h => by omega⟩
  | q + 1, hq => by
    obtain ⟨i1, i2, i3⟩ := rowM_inv hs ht hT hk I q (by omega)
    rw [List.range_succ, List.foldl_append, List.foldl_cons, List.foldl_nil]
    generalize (List.range q).foldl (fun m j => stepM T m j k) m = m' at *
    obtain ⟨a1, a2, a3⟩ := stepM_inv hs ht hT i1 (show q < n by omega) hk
    refine ⟨a1, fun a b ha hb h => a2 a b ha hb (i2 a b ha hb h), fun j hj h => ?_⟩
    by_cases e : j = q
    · subst e; exact a3 h
    · exact a2 _ _ (by omega) hk (i3 j (by omega) h)
theorem marksM_inv {C : Nat → Nat → Prop} {n : Nat} (h0 : ∀ i, i < n → C i i) (hs : ∀ i j, C i j → C j i) (ht : ∀ i j k, C i j → C j k → C i k) (hT : ∀ j k, j < n → k < n → T j k = true → C j k) : ∀ q, q ≤ n →
    MInv C n ((List.range q).foldl (fun m k => rowM T k m) (List.range n)) ∧ ∀ k, k < q → ∀ j, j < k → T j k = true → gt ((List.range q).foldl (fun m k => rowM T k m) (List.range n)) j = gt ((List.range q).foldl (fun m k => rowM T k m) (List.range n)) k
  | 0, _ => ⟨⟨by simp, fun i hi => by show gt (List.range n) i ≤ i; rw [gt_range hi]; exact Nat.le_refl _, fun i hi => by show gt (List.range n) (gt (List.range n) i) = gt (List.range n) i; rw [gt_range hi, gt_range hi], fun i hi => by show C i (gt (List.range n) i); rw [gt_range hi]; exact h0 i hi⟩, fun k h => by omega⟩
  | q + 1, hq => by
    obtain ⟨i1, i2⟩ := marksM_inv h0 hs ht hT q (by omega)
    rw [List.range_succ, List.foldl_append, List.foldl_cons, List.foldl_nil]
    generalize (List.range q).foldl (fun m k => rowM T k m) (List.range n) = m' at *
    obtain ⟨a1, a2, a3⟩ := rowM_inv hs ht hT (show q < n by omega) i1 q (Nat.le_refl _)
    refine ⟨a1, fun k hk j hj h => ?_⟩
    by_cases e : k = q
    · subst e; exact a3 j hj h
    · exact a2 _ _ (by omega) (by omega) (i2 k (by omega) j hj h)
end
section
variable {α : Type} [Inhabited α] {t : α → α → Bool}
def tat (ts : List α) (i : Nat) : α := ts.getD i default
theorem tat_get {ts : List α} {i : Nat} (h : i < ts.length) : tat ts i = ts[i] := by
  unfold tat
  rw [List.getD_eq_getElem?_getD, List.getElem?_eq_getElem h]; rfl
theorem tat_mem {ts : List α} {i : Nat} (h : i < ts.length) : tat ts i ∈ ts := by rw [tat_get h]; exact List.getElem_mem h
theorem mem_tat {ts : List α} {x : α} (h : x ∈ ts) : ∃ i, i < ts.length ∧ tat ts i = x := by
  obtain ⟨i, hi, e⟩ := List.mem_iff_getElem.mp h
  exact ⟨i, hi, by rw [tat_get hi, e]⟩
/-- the marks of ts -/
def marks (t : α → α → Bool) (ts : List α) : List Nat := marksM (fun j k => t (tat ts j) (tat ts k)) ts.length
structure Marks (t : α → α → Bool) (ts : List α) (m : List Nat) : Prop where
  len : m.length = ts.length
  le : ∀ i, i < ts.length → gt m i ≤ i
  fix : ∀ i, i < ts.length → gt m (gt m i) = gt m i
  iff : ∀ i j, i < ts.length → j < ts.length → (gt m i = gt m j ↔ Way t ts (tat ts i) (tat ts j))
theorem tat_inj {ts : List α} (hn : ts.Nodup) {i j : Nat} (hi : i < ts.length) (hj : j < ts.length) (e : tat ts i = tat ts j) : i = j := by
  rw [tat_get hi, tat_get hj] at e
  exact (List.getElem_inj hn).mp e
theorem marks_all (hs : ∀ a b, t a b = t b a) {ts : List α} (hn : ts.Nodup) : Marks t ts (marks t ts) := by
  let C : Nat → Nat → Prop := fun i j => i < ts.length ∧ j < ts.length ∧ Way t ts (tat ts i) (tat ts j)
  obtain ⟨I, h⟩ := marksM_inv (C := C) (T := fun j k => t (tat ts j) (tat ts k)) (n := ts.length) (fun i hi => ⟨hi, hi, .refl (tat_mem hi)⟩) (fun i j ⟨a, b, c⟩ => ⟨b, a, c.symm hs⟩) (fun i j k ⟨a, b, c⟩ ⟨d, e, f⟩ => ⟨a, e, c.trans f⟩) (fun j k hj hk h => ⟨hj, hk, .one (tat_mem hj) (tat_mem hk) h⟩) ts.length (Nat.le_refl _)
  have h2 : ∀ i j, i < ts.length → j < ts.length → t (tat ts i) (tat ts j) = true → gt (marks t ts) i = gt (marks t ts) j := fun i j hi hj e => by
    rcases Nat.lt_trichotomy i j with z | z | z
    · exact h j hj i z e
    · rw [z]
    · exact (h i hi j z (by rw [hs]; exact e)).symm
  refine ⟨I.len, I.le, I.fix, fun i j hi hj => ⟨fun e => ?_, fun w => ?_⟩⟩
  · have a := (I.con i hi).2.2
    have b := (I.con j hj).2.2
    have e' : gt (marks t ts) i = gt (marks t ts) j := e
    have e1 : gt ((List.range ts.length).foldl (fun m k => rowM (fun j k => t (tat ts j) (tat ts k)) k m) (List.range ts.length)) i = gt (marks t ts) i := rfl
    have e2 : gt ((List.range ts.length).foldl (fun m k => rowM (fun j k => t (tat ts j) (tat ts k)) k m) (List.range ts.length)) j = gt (marks t ts) j := rfl
    rw [e1, e'] at a
    rw [e2] at b
    exact a.trans (b.symm hs)
  · have key : ∀ x y, Way t ts x y → x = tat ts i → ∀ k, k < ts.length → tat ts k = y → gt (marks t ts) i = gt (marks t ts) k := fun x y w => by
      induction w with
      | refl _ => intro e k hk q; rw [tat_inj hn hk hi (q.trans e)]
      | @step b c w hc tc ih =>
        intro e k hk q
        obtain ⟨k', hk', q'⟩ := mem_tat w.mem_r
        exact (ih e k' hk' q').trans (h2 k' k hk' hk (by rw [q', q]; exact tc))
    exact key _ _ w rfl j hj rfl
/-! the first ones of classes -/
/-- what holds of the list of what is to be cut into classes -/
structure Ord (lt : α → α → Prop) (ts : List α) : Prop where
  pw : ts.Pairwise lt
  as : ∀ a b, lt a b → lt b a → False
theorem Ord.nodup {lt : α → α → Prop} {ts : List α} (o : Ord lt ts) : ts.Nodup := o.pw.imp fun h e => by subst e; exact o.as _ _ h h
theorem Ord.lt_at {lt : α → α → Prop} {ts : List α} (o : Ord lt ts) {i j : Nat} (h : i < j) (hj : j < ts.length) : lt (tat ts i) (tat ts j) := by
  rw [tat_get hj, tat_get (Nat.lt_trans h hj)]
  exact List.pairwise_iff_getElem.mp o.pw i j _ hj h
/-- the same members, both in order: the same list -/
theorem sorted_eq {lt : α → α → Prop} (as : ∀ a b, lt a b → lt b a → False) : ∀ {xs ys : List α}, xs.Pairwise lt → ys.Pairwise lt → (∀ x, x ∈ xs ↔ x ∈ ys) → xs = ys
  | [], [], _, _, _ => rfl
  | [], y :: ys, _, _, h => by have := (h y).mpr List.mem_cons_self; cases this
  | x :: xs, [], _, _, h => by have := (h x).mp List.mem_cons_self; cases this
  | x :: xs, y :: ys, hx, hy, h => by
    have px := List.pairwise_cons.mp hx
    have py := List.pairwise_cons.mp hy
    have e : x = y := by
      rcases List.mem_cons.mp ((h x).mp List.mem_cons_self) with e | e
      · exact e
      · rcases List.mem_cons.mp ((h y).mpr List.mem_cons_self) with e2 | e2
        · exact e2.symm
        · exact (as _ _ (px.1 y e2) (py.1 x e)).elim
    subst e
    rw [sorted_eq as px.2 py.2 fun z => ?_]
    constructor
    · intro hz
      rcases List.mem_cons.mp ((h z).mp (List.mem_cons_of_mem _ hz)) with e | e
      · subst e; exact (as _ _ (px.1 z hz) (px.1 z hz)).elim
      · exact e
    · intro hz
      rcases List.mem_cons.mp ((h z).mpr (List.mem_cons_of_mem _ hz)) with e | e
      · subst e; exact (as _ _ (py.1 z hz) (py.1 z hz)).elim
      · exact e
def fstI (ts : List α) (m : List Nat) : List Nat := (List.range ts.length).filter fun k => decide (gt m k = k)
def dueI (ts : List α) (m : List Nat) (f : Nat) : List α := ((List.range ts.length).filter fun k => decide (gt m k = f)).map (tat ts)
theorem filt_pw {lt : α → α → Prop} {ts : List α} (o : Ord lt ts) (f : Nat → Bool) : (((List.range ts.length).filter f).map (tat ts)).Pairwise lt := by
  refine List.pairwise_map.mpr ?_
  refine List.Pairwise.imp_of_mem (fun {a b} ha hb h => ?_) (List.pairwise_lt_range.filter f)
  exact o.lt_at h (List.mem_range.mp (List.mem_filter.mp hb).1)
theorem mem_filt {ts : List α} {f : Nat → Bool} {x : α} : x ∈ ((List.range ts.length).filter f).map (tat ts) ↔ ∃ k, k < ts.length ∧ f k = true ∧ tat ts k = x := by
  constructor
  · intro h
    obtain ⟨k, hk, e⟩ := List.mem_map.mp h
    obtain ⟨h1, h2⟩ := List.mem_filter.mp hk
    exact ⟨k, List.mem_range.mp h1, h2, e⟩
  · rintro ⟨k, h1, h2, e⟩
    exact List.mem_map.mpr ⟨k, List.mem_filter.mpr ⟨List.mem_range.mpr h1, h2⟩, e⟩
/-- a class by its first index -/
theorem class_first (hs : ∀ a b, t a b = t b a) {lt : α → α → Prop} {ts : List α} (o : Ord lt ts) {m : List Nat} (M : Marks t ts m) {c : List (Mem α)} (hc : c ∈ classes t ts) :
    ∃ r k, c = (tat ts k, none) :: r ∧ k < ts.length ∧ gt m k = k ∧ ∀ x, x ∈ c.map (·.1) ↔ x ∈ dueI ts m k := by
  have H := classes_cls (t := t) ts
  obtain ⟨a, l0, l', C, s⟩ := H.each c hc
  obtain ⟨r, e⟩ := C.hd
  have ha : a ∈ c.map (·.1) := by rw [e]; exact List.mem_cons_self
  obtain ⟨k, hk, q⟩ := mem_tat (s.subset List.mem_cons_self)
  have hw : ∀ j, j < ts.length → (tat ts j ∈ c.map (·.1) ↔ gt m j = gt m k) := fun j hj => by
    rw [M.iff j k hj hk, q]
    constructor
    · intro h; exact H.way hs hc h ha
    · intro w; exact H.stay hs hc (w.symm hs) ha
  have hf : gt m k = k := by
    have l := M.le k hk
    rcases Nat.lt_or_eq_of_le l with z | z
    · exfalso
      have h1 := (hw (gt m k) (by omega)).mpr (M.fix k hk)
      have h2 := o.lt_at z hk
      have h3 := C.mem.mpr (.inl h1)
      have pw := o.pw.sublist s
      rcases List.mem_cons.mp h3 with e2 | e2
      · rw [e2, q] at h2; exact o.as _ _ h2 h2
      · have := (List.pairwise_cons.mp pw).1 _ e2
        rw [q] at h2
        exact o.as _ _ this h2
    · exact z
  refine ⟨r, k, by rw [e, q], hk, hf, fun x => ?_⟩
  unfold dueI
  rw [mem_filt]
  constructor
  · intro h
    obtain ⟨j, hj, e2⟩ := mem_tat (H.mem.mpr ⟨c, hc, h⟩)
    refine ⟨j, hj, ?_, e2⟩
    rw [decide_eq_true_eq, ← hf]
    exact (hw j hj).mp (by rw [e2]; exact h)
  · rintro ⟨j, hj, h, e2⟩
    rw [decide_eq_true_eq] at h
    rw [← e2]
    exact (hw j hj).mpr (by rw [hf]; exact h)
/-- as many classes as firsts, in the same order -/
theorem firsts_eq (hs : ∀ a b, t a b = t b a) {lt : α → α → Prop} {ts : List α} (o : Ord lt ts) {m : List Nat} (M : Marks t ts m) : (classes t ts).map (fun c => (c.head?.map (·.1)).getD default) = (fstI ts m).map (tat ts) := by
  have H := classes_cls (t := t) ts
  have e0 : (classes t ts).map (fun c => (c.head?.map (·.1)).getD default) = (classes t ts).filterMap fun c => c.head?.map (·.1) := by
    have key : ∀ cs : List (List (Mem α)), (∀ c ∈ cs, c ≠ []) → cs.map (fun c => (c.head?.map (·.1)).getD default) = cs.filterMap fun c => c.head?.map (·.1) := fun cs => by
      induction cs with
      | nil => intro _; rfl
      | cons c cs ih =>
        intro h
        cases c with
        | nil => exact absurd rfl (h [] List.mem_cons_self)
        | cons x r =>
          rw [List.map_cons, ih fun c hc => h c (List.mem_cons_of_mem _ hc)]
          rfl
    refine key _ fun c hc e => ?_
    obtain ⟨r, k, e2, _⟩ := class_first hs o M hc
    rw [e] at e2; cases e2
  rw [e0]
  refine sorted_eq o.as (o.pw.sublist H.firsts) (filt_pw o _) fun x => ?_
  unfold fstI
  rw [mem_filt]
  constructor
  · intro h
    obtain ⟨c, hc, e⟩ := List.mem_filterMap.mp h
    obtain ⟨r, k, e2, hk, hf, _⟩ := class_first hs o M hc
    rw [e2] at e
    exact ⟨k, hk, by rw [decide_eq_true_eq]; exact hf, Option.some.inj e⟩
  · rintro ⟨k, hk, hf, e⟩
    rw [decide_eq_true_eq] at hf
    obtain ⟨c, hc, hx⟩ := H.mem.mp (tat_mem hk)
    obtain ⟨r, k2, e2, hk2, hf2, hm⟩ := class_first hs o M hc
    obtain ⟨k3, hk3, h3, e3⟩ := mem_filt.mp ((hm _).mp hx)
    rw [decide_eq_true_eq] at h3
    have : k3 = k := tat_inj o.nodup hk3 hk e3
    subst this
    have : k2 = k3 := by rw [← h3, hf]
    subst this
    exact List.mem_filterMap.mpr ⟨c, hc, by rw [e2, ← e]; rfl⟩
end
theorem cls_sum {t : Tri → Tri → Bool} {l : List Tri} {cs : List (List (Mem Tri))} (h : Cls t l cs) : (cs.map (·.length)).sum = l.length := by
  rw [← h.perm.length_eq, List.length_flatMap]
  congr 1
  apply List.map_congr_left
  intro m _
  rw [List.length_map]
theorem cls_len {t : Tri → Tri → Bool} {l : List Tri} {cs : List (List (Mem Tri))} (h : Cls t l cs) {c : List (Mem Tri)} (hc : c ∈ cs) : c.length ≤ l.length := by
  obtain ⟨a, l0, l', C, s⟩ := h.each c hc
  have h1 := C.len.1
  have h2 := s.length_le
  rw [List.length_cons] at h2
  omega
theorem fill_fold : ∀ (ms : List (List (Mem Tri))) (q : Pic), IsPic q → IsPic (ms.foldl (fun t m => joinP t (picOf (m.map (·.1)))) q) ∧ nS (ms.foldl (fun t m => joinP t (picOf (m.map (·.1)))) q) ≤ nS q + (ms.map (·.length)).sum ∧
    ∀ x y, inP (ms.foldl (fun t m => joinP t (picOf (m.map (·.1)))) q) x y ↔ inP q x y ∨ ∃ m ∈ ms, inT (m.map (·.1)) x y
  | [], q, h => ⟨h, by simp, fun x y => by simp⟩
  | m :: ms, q, h => by
    have hm := picOf_pic (m.map (·.1))
    have hj := joinP_pic h hm
    obtain ⟨a, b, c⟩ := fill_fold ms (joinP q (picOf (m.map (·.1)))) hj
    refine ⟨a, ?_, fun x y => ?_⟩
    · have h1 := joinP_nS h hm
      have h2 := picOf_nS (m.map (·.1))
      rw [List.length_map] at h2
      rw [List.foldl_cons, List.map_cons, List.sum_cons]
      omega
    · rw [List.foldl_cons, c, joinP_in h hm, picOf_in]
      simp only [List.mem_cons, exists_eq_or_imp, or_assoc]
theorem sum_sub {α : Type} (f : α → Nat) : ∀ {l m : List α}, List.Sublist l m → (l.map f).sum ≤ (m.map f).sum
  | _, _, .slnil => Nat.le_refl _
  | _, _, .cons a s => by have := sum_sub f s; rw [List.map_cons, List.sum_cons]; omega
  | _, _, .cons_cons a s => by have := sum_sub f s; rw [List.map_cons, List.map_cons, List.sum_cons, List.sum_cons]; omega
/-! what belongs together -/
/-- the cell lies in a stretch of t's class -/
def NearT (ts : List Tri) (t : Tri) (x y : Int) : Prop := ∃ u ∈ ts, (u.1 = y ∧ u.2.1 ≤ x ∧ x ≤ u.2.2) ∧ Way (touchT 1) ts u t
theorem classes_near {ts : List Tri} {c : List (Mem Tri)} (hc : c ∈ classes (touchT 1) ts) {x y : Int} (hx : inT (c.map (·.1)) x y) : ∀ t, NearT ts t x y → t ∈ c.map (·.1) ∨ ∃ u v, u ∈ ts ∧ v ∈ ts ∧ u ≠ v ∧ (u.1 = y ∧ u.2.1 ≤ x ∧ x ≤ u.2.2) ∧ (v.1 = y ∧ v.2.1 ≤ x ∧ x ≤ v.2.2) := by
  intro t ⟨u, hu, e, w⟩
  have H := classes_cls (t := touchT 1) ts
  obtain ⟨v, hv, e2⟩ := hx
  by_cases q : v = u
  · subst q
    exact .inl (H.stay (touchT_symm 1) hc w hv)
  · exact .inr ⟨v, u, H.mem.mpr ⟨c, hc, hv⟩, hu, q, e2, e⟩
theorem str_one {p : Pic} (h : IsPic p) {u v : Tri} (hu : u ∈ strOf p) (hv : v ∈ strOf p) {x y : Int} (e : u.1 = y ∧ u.2.1 ≤ x ∧ x ≤ u.2.2) (e2 : v.1 = y ∧ v.2.1 ≤ x ∧ x ≤ v.2.2) : u = v := by
  obtain ⟨i, hi, q1⟩ := List.mem_iff_getElem.mp hu
  obtain ⟨j, hj, q2⟩ := List.mem_iff_getElem.mp hv
  rcases Nat.lt_trichotomy i j with z | z | z
  · have := List.pairwise_iff_getElem.mp (str_dj h) i j hi hj z
    rw [q1, q2] at this
    unfold Dj at this
    omega
  · subst z; exact q1.symm.trans q2
  · have := List.pairwise_iff_getElem.mp (str_dj h) j i hj hi z
    rw [q1, q2] at this
    unfold Dj at this
    omega
/-- the piece at a cell: all near it -/
theorem piece_near {p : Pic} (h : IsPic p) {c : List (Mem Tri)} (hc : c ∈ classes (touchT 1) (strOf p)) {x y : Int} (hx : inT (c.map (·.1)) x y) (t : Tri) : t ∈ c.map (·.1) ↔ NearT (strOf p) t x y := by
  have H := classes_cls (t := touchT 1) (strOf p)
  constructor
  · intro ht
    obtain ⟨v, hv, e2⟩ := hx
    exact ⟨v, H.mem.mpr ⟨c, hc, hv⟩, e2, H.way (touchT_symm 1) hc hv ht⟩
  · intro ht
    rcases classes_near hc hx t ht with k | ⟨u, v, hu, hv, ne, e1, e2⟩
    · exact k
    · exact absurd (str_one h hu hv e1 e2) ne
theorem near_class {ts : List Tri} {t : Tri} {x y : Int} (h : NearT ts t x y) : ∃ c ∈ classes (touchT 1) ts, inT (c.map (·.1)) x y ∧ t ∈ c.map (·.1) := by
  obtain ⟨u, hu, e, w⟩ := h
  have H := classes_cls (t := touchT 1) ts
  obtain ⟨c, hc, hm⟩ := H.mem.mp hu
  exact ⟨c, hc, ⟨u, hm, e⟩, H.stay (touchT_symm 1) hc w hm⟩
end P
namespace P
open PySem L2 FL
theorem fldD_obj {cls : List Str} {f c : Str} {fs : List (Str × D)} {d : D} (h1 : cls.contains c = true) (h2 : fs.lookup f = some d) : fldD cls f (.obj c fs) = .ok d := by
  show (if cls.contains c = true then (match fs.lookup f with | some d => Res.ok d | none => .no) else .no) = _
  rw [if_pos h1, h2]
/-! pictures made greater -/
def sprP (lo hi : Int) (p : Pic) : Pic := picRows (p.map fun t => (t.1, sprR lo hi t.2))
theorem sprP_pic {lo hi : Int} {p : Pic} (h : IsPic p) : IsPic (sprP lo hi p) := picRows_pic (map_ys (fun t => sprR lo hi t.2) h.ys) fun t ht => by
  obtain ⟨u, _, rfl⟩ := List.mem_map.mp ht
  exact sprR_row _ _ _
theorem sprP_in {lo hi : Int} {p : Pic} (h : IsPic p) (hlh : lo ≤ hi) (x y : Int) : inP (sprP lo hi p) x y ↔ ∃ d, lo ≤ d ∧ d ≤ hi ∧ inP p (x - d) y := by
  unfold sprP
  rw [picRows_in, inP_map (fun t => sprR lo hi t.2)]
  constructor
  · rintro ⟨t, ht, e, g⟩
    obtain ⟨d, h1, h2, g⟩ := (sprR_in hlh (h.2 t ht).1.2 x).mp g
    exact ⟨d, h1, h2, t, ht, e, g⟩
  · rintro ⟨d, h1, h2, t, ht, e, g⟩
    exact ⟨t, ht, e, (sprR_in hlh (h.2 t ht).1.2 x).mpr ⟨d, h1, h2, g⟩⟩
theorem sprP_nS {lo hi : Int} {p : Pic} (h : IsPic p) (hlh : lo ≤ hi) : nS (sprP lo hi p) ≤ nS p := by
  have e : ((stL p).map fun z => (z.1, z.2 + lo)).length = nS p := by rw [List.length_map, stL_len]
  rw [← e]
  refine nS_le (sprP_pic h) _ fun x y h1 h2 => ?_
  rw [sprP_in h hlh] at h1 h2
  obtain ⟨d, d1, d2, g⟩ := h1
  have hd : d = lo := by
    rcases Int.lt_or_eq_of_le d1 with z | z
    · exact absurd ⟨d - 1, by omega, by omega, by rw [show x - 1 - (d - 1) = x - d by omega]; exact g⟩ h2
    · exact z.symm
  subst hd
  have g2 : ¬ inP p (x - d - 1) y := fun z => h2 ⟨d, by omega, by omega, by rw [show x - 1 - d = x - d - 1 by omega]; exact z⟩
  exact List.mem_map.mpr ⟨(y, x - d), stL_of g g2, Prod.ext rfl (by dsimp only; omega)⟩
/-- every stretch by every stretch -/
def sumT (as bs : List Tri) : List Tri := as.flatMap fun a => bs.map fun b => (a.1 + b.1, a.2.1 + b.2.1, a.2.2 + b.2.2)
theorem sumT_len (as bs : List Tri) : (sumT as bs).length = as.length * bs.length := by
  unfold sumT
  rw [List.length_flatMap]
  simp only [List.length_map]
  induction as with
  | nil => simp
  | cons a as ih => rw [List.map_cons, List.sum_cons, ih, List.length_cons, Nat.succ_mul, Nat.add_comm]
theorem sumT_ok {as bs : List Tri} (ha : ∀ t ∈ as, t.2.1 ≤ t.2.2) (hb : ∀ t ∈ bs, t.2.1 ≤ t.2.2) : ∀ t ∈ sumT as bs, t.2.1 ≤ t.2.2 := fun t ht => by
  obtain ⟨a, h1, ht⟩ := List.mem_flatMap.mp ht
  obtain ⟨b, h2, rfl⟩ := List.mem_map.mp ht
  have := ha a h1
  have := hb b h2
  dsimp only
  omega
theorem sumT_in {as bs : List Tri} (ha : ∀ t ∈ as, t.2.1 ≤ t.2.2) (hb : ∀ t ∈ bs, t.2.1 ≤ t.2.2) (x y : Int) : inT (sumT as bs) x y ↔ ∃ dx dy, inT bs dx dy ∧ inT as (x - dx) (y - dy) := by
  constructor
  · rintro ⟨t, ht, e, l, h⟩
    obtain ⟨a, h1, ht⟩ := List.mem_flatMap.mp ht
    obtain ⟨b, h2, rfl⟩ := List.mem_map.mp ht
    have oa := ha a h1
    have ob := hb b h2
    dsimp only at e l h
    by_cases z : x - b.2.1 ≤ a.2.2
    · exact ⟨b.2.1, b.1, ⟨b, h2, rfl, by omega, by omega⟩, a, h1, by omega, by omega, by omega⟩
    · exact ⟨x - a.2.2, b.1, ⟨b, h2, rfl, by omega, by omega⟩, a, h1, by omega, by omega, by omega⟩
  · rintro ⟨dx, dy, ⟨b, h2, e2, l2, u2⟩, a, h1, e1, l1, u1⟩
    exact ⟨_, List.mem_flatMap.mpr ⟨a, h1, List.mem_map.mpr ⟨b, h2, rfl⟩⟩, by dsimp only; omega, by dsimp only; omega, by dsimp only; omega⟩
/-! forms -/
inductive Fm where
  | box (l u r d : Int) | cross (a : Int) | shape (p : Pic) | sum (f g : Fm)
def eBox (l u r d : Int) : D := .obj "Box" [("sides", .tup [.int l, .int u, .int r, .int d])]
def encF : Fm → D
  | .box l u r d => eBox l u r d
  | .cross a => .obj "Cross" [("across", eBox a 0 a 0), ("upright", eBox 0 a 0 a)]
  | .shape p => .obj "Shape" [("shape_cells", ePic p)]
  | .sum f g => .obj "Sum" [("first", encF f), ("second", encF g)]
def inF : Fm → Int → Int → Prop
  | .box l u r d, x, y => -l ≤ x ∧ x ≤ r ∧ -u ≤ y ∧ y ≤ d
  | .cross a, x, y => (-a ≤ x ∧ x ≤ a ∧ y = 0) ∨ (-a ≤ y ∧ y ≤ a ∧ x = 0)
  | .shape p, x, y => inP p x y
  | .sum f g, x, y => ∃ x1 y1, inF f x1 y1 ∧ inF g (x - x1) (y - y1)
def okF : Fm → Prop
  | .box l u r d => 0 ≤ l ∧ 0 ≤ u ∧ 0 ≤ r ∧ 0 ≤ d ∧ u ≤ 1000 ∧ d ≤ 1000
  | .cross a => 0 ≤ a ∧ a ≤ 1000
  | .shape p => IsPic p ∧ p ≠ []
  | .sum f g => okF f ∧ okF g
def depF : Fm → Nat
  | .box _ _ _ _ => 1
  | .cross _ => 2
  | .shape _ => 1
  | .sum f g => max (depF f) (depF g) + 1
/-- how much greater, in stretches -/
def facF : Fm → Nat
  | .box _ u _ d => (u + d + 1).toNat
  | .cross a => (2 * a + 2).toNat
  | .shape p => nS p
  | .sum f g => facF f * facF g
theorem pic_nS_pos {p : Pic} (h : IsPic p) (hn : p ≠ []) : 0 < nS p := by
  have := (len_nS h).1
  have : 0 < p.length := List.length_pos_iff.mpr hn
  omega
theorem facF_pos : ∀ {f : Fm}, okF f → 0 < facF f
  | .box l u r d, h => by unfold okF at h; unfold facF; omega
  | .cross a, h => by unfold okF at h; unfold facF; omega
  | .shape p, h => pic_nS_pos h.1 h.2
  | .sum f g, h => Nat.mul_pos (facF_pos h.1) (facF_pos h.2)
/-- what it is to be made greater by a form -/
structure Greater (f : Fm) (p q : Pic) : Prop where
  pic : IsPic q
  few : nS q ≤ facF f * nS p
  inn : ∀ x y, inP q x y ↔ ∃ dx dy, inF f dx dy ∧ inP p (x - dx) (y - dy)
theorem Greater.eq {f : Fm} {p q q' : Pic} (h : Greater f p q) (h' : Greater f p q') : q = q' := pic_ext h.pic h'.pic fun x y => by rw [h.inn, h'.inn]
theorem Greater.sum {f g : Fm} {p q r : Pic} (h1 : Greater f p q) (h2 : Greater g q r) : Greater (.sum f g) p r where
  pic := h2.pic
  few := by
    have a := h1.few
    have b := h2.few
    have := Nat.mul_le_mul_left (facF g) a
    show _ ≤ facF f * facF g * _
    rw [Nat.mul_comm (facF f), Nat.mul_assoc]
    omega
  inn := fun x y => by
    rw [h2.inn]
    constructor
    · rintro ⟨dx, dy, g2, hq⟩
      obtain ⟨ex, ey, g1, hp⟩ := (h1.inn _ _).mp hq
      exact ⟨ex + dx, ey + dy, ⟨ex, ey, g1, by rw [show ex + dx - ex = dx by omega, show ey + dy - ey = dy by omega]; exact g2⟩, by rw [show x - (ex + dx) = x - dx - ex by omega, show y - (ey + dy) = y - dy - ey by omega]; exact hp⟩
    · rintro ⟨dx, dy, ⟨ex, ey, g1, g2⟩, hp⟩
      exact ⟨dx - ex, dy - ey, g2, (h1.inn _ _).mpr ⟨ex, ey, g1, by rw [show x - (dx - ex) - ex = x - dx by omega, show y - (dy - ey) - ey = y - dy by omega]; exact hp⟩⟩
theorem Greater.cross {a : Int} (ha : 0 ≤ a) {p q r : Pic} (hq : Greater (.box a 0 a 0) p q) (hr : Greater (.box 0 a 0 a) p r) : Greater (.cross a) p (joinP q r) where
  pic := joinP_pic hq.pic hr.pic
  few := by
    have h1 := joinP_nS hq.pic hr.pic
    have h2 := hq.few
    have h3 := hr.few
    have e2 : facF (.box a 0 a 0) = 1 := rfl
    have e3 : facF (.box 0 a 0 a) = (a + a + 1).toNat := rfl
    have e4 : facF (.cross a) = (2 * a + 2).toNat := rfl
    have e5 : (2 * a + 2).toNat = 1 + (a + a + 1).toNat := by omega
    rw [e2] at h2
    rw [e3] at h3
    rw [e4, e5, Nat.add_mul]
    omega
  inn := fun x y => by
    rw [joinP_in hq.pic hr.pic, hq.inn, hr.inn]
    constructor
    · rintro (⟨dx, dy, ⟨h1, h2, h3, h4⟩, hp⟩ | ⟨dx, dy, ⟨h1, h2, h3, h4⟩, hp⟩)
      · exact ⟨dx, dy, .inl ⟨h1, h2, by omega⟩, hp⟩
      · exact ⟨dx, dy, .inr ⟨h3, h4, by omega⟩, hp⟩
    · rintro ⟨dx, dy, (⟨h1, h2, h3⟩ | ⟨h1, h2, h3⟩), hp⟩
      · exact .inl ⟨dx, dy, ⟨h1, h2, by omega, by omega⟩, hp⟩
      · exact .inr ⟨dx, dy, ⟨by omega, by omega, h1, h2⟩, hp⟩
theorem Greater.shape {s p : Pic} (hs : IsPic s) (hp : IsPic p) : Greater (.shape s) p (picOf (sumT (strOf p) (strOf s))) where
  pic := picOf_pic _
  few := by
    have := picOf_nS (sumT (strOf p) (strOf s))
    rw [sumT_len] at this
    show _ ≤ nS s * nS p
    rw [Nat.mul_comm]
    exact this
  inn := fun x y => by
    rw [picOf_in, sumT_in (fun t ht => (str_start hp ht).2.2.2.2) (fun t ht => (str_start hs ht).2.2.2.2)]
    simp only [strOf_in]
    rfl
def boxT (u : Int) (n : Nat) (w : Pic) : List Tri := (List.range n).flatMap fun i => strOf (movP 0 (-u + (i : Nat)) w)
theorem Greater.box {l u r d : Int} (h : okF (.box l u r d)) {p : Pic} (hp : IsPic p) : Greater (.box l u r d) p (picOf (boxT u (u + d + 1).toNat (sprP (-l) r p))) where
  pic := picOf_pic _
  few := by
    have h1 := picOf_nS (boxT u (u + d + 1).toNat (sprP (-l) r p))
    have h2 := sprP_nS hp (show -l ≤ r by unfold okF at h; omega)
    have h3 : (boxT u (u + d + 1).toNat (sprP (-l) r p)).length = (u + d + 1).toNat * nS (sprP (-l) r p) := by
      unfold boxT
      rw [List.length_flatMap]
      have : ∀ i : Nat, (strOf (movP 0 (-u + (i : Nat)) (sprP (-l) r p))).length = nS (sprP (-l) r p) := fun i => movP_nS 0 _ _
      simp only [this]
      rw [List.map_const', List.sum_replicate_nat, List.length_range]
    rw [h3] at h1
    have := Nat.mul_le_mul_left (u + d + 1).toNat h2
    show _ ≤ (u + d + 1).toNat * nS p
    omega
  inn := fun x y => by
    have hlr : -l ≤ r := by unfold okF at h; omega
    rw [picOf_in]
    constructor
    · rintro ⟨t, ht, e⟩
      obtain ⟨i, hi, ht⟩ := List.mem_flatMap.mp ht
      have hi := List.mem_range.mp hi
      have : inP (movP 0 (-u + (i : Nat)) (sprP (-l) r p)) x y := (strOf_in _ _ _).mp ⟨t, ht, e⟩
      rw [movP_in, sprP_in hp hlr] at this
      obtain ⟨dx, h1, h2, g⟩ := this
      refine ⟨dx, -u + (i : Nat), ⟨h1, h2, by omega, by omega⟩, ?_⟩
      rw [show x - 0 - dx = x - dx by omega] at g
      exact g
    · rintro ⟨dx, dy, ⟨h1, h2, h3, h4⟩, g⟩
      have : inP (movP 0 dy (sprP (-l) r p)) x y := by
        rw [movP_in, sprP_in hp hlr]
        exact ⟨dx, h1, h2, by rw [show x - 0 - dx = x - dx by omega]; exact g⟩
      obtain ⟨t, ht, e⟩ := (strOf_in _ _ _).mpr this
      refine ⟨t, List.mem_flatMap.mpr ⟨(dy + u).toNat, List.mem_range.mpr (by omega), ?_⟩, e⟩
      rw [show -u + (((dy + u).toNat : Nat) : Int) = dy by omega]
      exact ht
end P
namespace P
open PySem L2 FL
/-! forms and the stretches drawn for them -/
theorem box_cells (l u r d : Int) (x y : Int) (h : 0 ≤ u + d + 1) : inT ((List.range (u + d + 1).toNat).map fun i => ((-u + (i : Nat), -l, r) : Tri)) x y ↔ inF (.box l u r d) x y := by
  constructor
  · rintro ⟨t, ht, e, h1, h2⟩
    obtain ⟨i, hi, rfl⟩ := List.mem_map.mp ht
    have hi := List.mem_range.mp hi
    dsimp only at e h1 h2
    exact ⟨h1, h2, by omega, by omega⟩
  · rintro ⟨h1, h2, h3, h4⟩
    refine ⟨_, List.mem_map.mpr ⟨(y + u).toNat, List.mem_range.mpr (by omega), rfl⟩, ?_, h1, h2⟩
    dsimp only
    omega
theorem cross_cells (a : Int) (ha : 0 ≤ a) (x y : Int) : inT (((List.range (a + a + 1).toNat).map fun i => ((-a + (i : Nat), 0, 0) : Tri)) ++ [(0, -a, a)]) x y ↔ inF (.cross a) x y := by
  constructor
  · rintro ⟨t, ht, e, h1, h2⟩
    rcases List.mem_append.mp ht with ht | ht
    · obtain ⟨i, hi, rfl⟩ := List.mem_map.mp ht
      have hi := List.mem_range.mp hi
      dsimp only at e h1 h2
      exact .inr ⟨by omega, by omega, by omega⟩
    · rw [List.mem_singleton.mp ht] at e h1 h2
      dsimp only at e h1 h2
      exact .inl ⟨h1, h2, by omega⟩
  · rintro (⟨h1, h2, h3⟩ | ⟨h1, h2, h3⟩)
    · exact ⟨(0, -a, a), List.mem_append_right _ (List.mem_singleton.mpr rfl), h3.symm, h1, h2⟩
    · refine ⟨_, List.mem_append_left _ (List.mem_map.mpr ⟨(y + a).toNat, List.mem_range.mpr (by omega), rfl⟩), ?_, ?_, ?_⟩
      · dsimp only; omega
      · dsimp only; omega
      · dsimp only; omega
/-- a form and its stretches -/
structure Drawn (f : Fm) (ts : List Tri) (n k : Nat) : Prop where
  ok : okF f
  fac : facF f ≤ n
  dep : depF f ≤ k
  len : ts.length ≤ n
  ord : ∀ t ∈ ts, t.2.1 ≤ t.2.2
  inn : ∀ x y, inT ts x y ↔ inF f x y
theorem picOf_ne {ts : List Tri} (h : ts ≠ []) (ho : ∀ t ∈ ts, t.2.1 ≤ t.2.2) : picOf ts ≠ [] := fun e => by
  cases ts with
  | nil => exact h rfl
  | cons t ts =>
    have : inP (picOf (t :: ts)) t.2.1 t.1 := (picOf_in _ _ _).mpr ⟨t, List.mem_cons_self, rfl, Int.le_refl _, ho t List.mem_cons_self⟩
    rw [e] at this
    obtain ⟨u, hu, _⟩ := this
    cases hu
theorem Drawn.sum {f g : Fm} {ts us : List Tri} {n m k l : Nat} (h1 : Drawn f ts n k) (h2 : Drawn g us m l) : Drawn (.sum f g) (sumT ts us) (n * m) (max k l + 1) where
  ok := ⟨h1.ok, h2.ok⟩
  fac := Nat.mul_le_mul h1.fac h2.fac
  dep := by
    have a := h1.dep
    have b := h2.dep
    show max (depF f) (depF g) + 1 ≤ _
    omega
  len := by rw [sumT_len]; exact Nat.mul_le_mul h1.len h2.len
  ord := sumT_ok h1.ord h2.ord
  inn := fun x y => by
    rw [sumT_in h1.ord h2.ord]
    constructor
    · rintro ⟨dx, dy, a, b⟩
      exact ⟨x - dx, y - dy, (h1.inn _ _).mp b, by rw [show x - (x - dx) = dx by omega, show y - (y - dy) = dy by omega]; exact (h2.inn _ _).mp a⟩
    · rintro ⟨x1, y1, a, b⟩
      exact ⟨x - x1, y - y1, (h2.inn _ _).mpr b, by rw [show x - (x - x1) = x1 by omega, show y - (y - y1) = y1 by omega]; exact (h1.inn _ _).mpr a⟩
theorem Drawn.mono {f : Fm} {ts : List Tri} {n m k l : Nat} (h : Drawn f ts n k) (a : n ≤ m) (b : k ≤ l) : Drawn f ts m l := ⟨h.ok, Nat.le_trans h.fac a, Nat.le_trans h.dep b, Nat.le_trans h.len a, h.ord, h.inn⟩
theorem three_ix (k : Int) (h0 : 0 ≤ k) (h1 : k < 3) : ∃ v, 0 < v ∧ ixD (.lst [.int 1, .int 1, .int (10 ^ 40 + 7)]) (.int k) = .ok (.int v) := by
  have : k = 0 ∨ k = 1 ∨ k = 2 := by omega
  rcases this with rfl | rfl | rfl
  · exact ⟨1, by decide, rfl⟩
  · exact ⟨1, by decide, rfl⟩
  · exact ⟨10 ^ 40 + 7, by decide, rfl⟩
/-! the longest row -/
def mR : Pic → Nat
  | [] => 0
  | t :: p => max t.2.length (mR p)
theorem mR_mem : ∀ {p : Pic} {t : Int × List St2}, t ∈ p → t.2.length ≤ mR p
  | s :: p, t, h => by
    unfold mR
    rcases List.mem_cons.mp h with rfl | h
    · omega
    · have := mR_mem h; omega
theorem mR_le {n : Nat} : ∀ {p : Pic}, (∀ t ∈ p, t.2.length ≤ n) → mR p ≤ n
  | [], _ => Nat.zero_le _
  | s :: p, h => by
    have h1 := h s List.mem_cons_self
    have h2 := mR_le (p := p) fun t ht => h t (List.mem_cons_of_mem _ ht)
    unfold mR
    omega
theorem mR_nS {p : Pic} (h : IsPic p) : mR p ≤ nS p := mR_le (len_nS h).2
theorem mR_rowAt (p : Pic) (y : Int) : (rowAt p y).length ≤ mR p := by
  rcases rowAt_of (p := p) (y := y) with ⟨s, a, b, c⟩ | ⟨a, b⟩
  · rw [c]; exact mR_mem a
  · rw [b]; exact Nat.zero_le _
def stR (p : Pic) (y : Int) : List Int := (rowAt p y).map (·.1)
theorem stR_len (p : Pic) (y : Int) : (stR p y).length ≤ mR p := by
  unfold stR
  rw [List.length_map]
  exact mR_rowAt p y
theorem stR_of {p : Pic} (h : IsPic p) {x y : Int} (h1 : inP p x y) (h2 : ¬ inP p (x - 1) y) : x ∈ stR p y := by
  rw [inP_rowAt h.ys] at h1 h2
  obtain ⟨s, hs, a, b⟩ := h1
  refine List.mem_map.mpr ⟨s, hs, ?_⟩
  by_cases z : s.1 = x
  · exact z
  · exact absurd ⟨s, hs, by omega, by omega⟩ h2
theorem row_le {q : Pic} (hq : IsPic q) {n : Nat} (h : ∀ y, ∃ L : List Int, L.length ≤ n ∧ ∀ x, inP q x y → ¬ inP q (x - 1) y → x ∈ L) : mR q ≤ n := mR_le fun t ht => by
  obtain ⟨L, hn, hL⟩ := h t.1
  have h1 : IsPic [t] := ⟨List.pairwise_singleton _ _, fun s hs => by rw [List.mem_singleton.mp hs]; exact hq.2 t ht⟩
  have e : nS [t] = t.2.length := by rw [nS_cons, nS_nil]; omega
  have k := nS_le h1 (L.map fun x => (t.1, x)) fun x y g1 g2 => by
    have hy : y = t.1 := by
      obtain ⟨s, hs, e, _⟩ := g1
      rw [List.mem_singleton.mp hs] at e
      exact e.symm
    subst hy
    have w : ∀ x, inP [t] x t.1 ↔ inP q x t.1 := fun x => by
      rw [row_of_pic hq ht, row_of_pic h1 (List.mem_singleton.mpr rfl)]
    rw [w] at g1 g2
    exact List.mem_map.mpr ⟨x, hL x g1 g2, rfl⟩
  rw [e, List.length_map] at k
  omega
/-! pictures made smaller -/
def shrP (lo hi : Int) (p : Pic) : Pic := picRows (p.map fun t => (t.1, shrR lo hi t.2))
theorem shrP_pic {lo hi : Int} {p : Pic} (h : IsPic p) : IsPic (shrP lo hi p) := picRows_pic (map_ys (fun t => shrR lo hi t.2) h.ys) fun t ht => by
  obtain ⟨u, _, rfl⟩ := List.mem_map.mp ht
  exact shrR_row _ _ _
theorem shrR_all {l h : Int} (hlh : l ≤ h) {r : List St2} (hr : IsRow r) (x : Int) : inR (shrR l h r) x ↔ ∀ d, l ≤ d → d ≤ h → inR r (x + d) := by
  rw [shrR_in hlh]
  constructor
  · rintro ⟨p, hp, a, b⟩ d h1 h2
    exact ⟨p, hp, by omega, by omega⟩
  · intro g
    obtain ⟨p, hp, a, b⟩ := hr.run (a := x + l) (b := x + h) (by omega) fun y h1 h2 => by
      have := g (y - x) (by omega) (by omega)
      rw [show x + (y - x) = y by omega] at this
      exact this
    exact ⟨p, hp, a, b⟩
theorem shrP_in {lo hi : Int} {p : Pic} (h : IsPic p) (hlh : lo ≤ hi) (x y : Int) : inP (shrP lo hi p) x y ↔ ∀ d, lo ≤ d → d ≤ hi → inP p (x + d) y := by
  unfold shrP
  rw [picRows_in, inP_map (fun t => shrR lo hi t.2)]
  constructor
  · rintro ⟨t, ht, e, g⟩ d h1 h2
    exact ⟨t, ht, e, (shrR_all hlh (h.2 t ht).1 x).mp g d h1 h2⟩
  · intro g
    obtain ⟨t, ht, e, _⟩ := g lo (Int.le_refl _) hlh
    refine ⟨t, ht, e, (shrR_all hlh (h.2 t ht).1 x).mpr fun d h1 h2 => ?_⟩
    have := g d h1 h2
    rw [← e, row_of_pic h ht] at this
    exact this
/-- where all of some stretches lie in a picture -/
structure Fits (ts : List Tri) (p q : Pic) : Prop where
  pic : IsPic q
  inn : ∀ x y, inP q x y ↔ ∀ dx dy, inT ts dx dy → inP p (x + dx) (y + dy)
theorem Fits.start {ts : List Tri} {p q : Pic} (h : Fits ts p q) (hp : IsPic p) {x y : Int} (h1 : inP q x y) (h2 : ¬ inP q (x - 1) y) : ∃ t ∈ ts, inP p (x + t.2.1) (y + t.1) ∧ ¬ inP p (x + t.2.1 - 1) (y + t.1) := by
  rw [h.inn] at h1 h2
  simp only [Classical.not_forall] at h2
  obtain ⟨dx, dy, ⟨t, ht, e, a, b⟩, g⟩ := h2
  subst e
  have hdx : dx = t.2.1 := by
    rcases Int.lt_or_eq_of_le a with z | z
    · exact absurd (by have := h1 (dx - 1) t.1 ⟨t, ht, rfl, by omega, by omega⟩; rw [show x + (dx - 1) = x - 1 + dx by omega] at this; exact this) g
    · exact z.symm
  subst hdx
  exact ⟨t, ht, h1 _ _ ⟨t, ht, rfl, a, b⟩, by rw [show x + t.2.1 - 1 = x - 1 + t.2.1 by omega]; exact g⟩
theorem Fits.nS {ts : List Tri} {p q : Pic} (h : Fits ts p q) (hp : IsPic p) : nS q ≤ ts.length * nS p := by
  have e : (ts.flatMap fun t => (stL p).map fun z => (z.1 - t.1, z.2 - t.2.1)).length = ts.length * P.nS p := by
    rw [List.length_flatMap]
    simp only [List.length_map, stL_len, List.map_const', List.sum_replicate_nat]
  rw [← e]
  refine nS_le h.pic _ fun x y h1 h2 => ?_
  obtain ⟨t, ht, a, b⟩ := h.start hp h1 h2
  exact List.mem_flatMap.mpr ⟨t, ht, List.mem_map.mpr ⟨_, stL_of a b, Prod.ext (by dsimp only; omega) (by dsimp only; omega)⟩⟩
theorem flat_len {α β : Type} {n : Nat} (f : α → List β) : ∀ {ts : List α}, (∀ t ∈ ts, (f t).length ≤ n) → (ts.flatMap f).length ≤ ts.length * n
  | [], _ => by simp
  | t :: ts, h => by
    have a := h t List.mem_cons_self
    have b := flat_len f (ts := ts) fun s hs => h s (List.mem_cons_of_mem _ hs)
    rw [List.flatMap_cons, List.length_append, List.length_cons, Nat.succ_mul]
    omega
theorem Fits.row {ts : List Tri} {p q : Pic} (h : Fits ts p q) (hp : IsPic p) : mR q ≤ ts.length * mR p := row_le h.pic fun y => by
  refine ⟨ts.flatMap fun t => (stR p (y + t.1)).map fun z => z - t.2.1, flat_len _ fun t _ => by rw [List.length_map]; exact stR_len _ _, fun x h1 h2 => ?_⟩
  obtain ⟨t, ht, a, b⟩ := h.start hp h1 h2
  exact List.mem_flatMap.mpr ⟨t, ht, List.mem_map.mpr ⟨_, stR_of hp a b, by omega⟩⟩
theorem Fits.one {p : Pic} (hp : IsPic p) {dy a b : Int} (h : a ≤ b) : Fits [(dy, a, b)] p (movP 0 (-dy) (shrP a b p)) where
  pic := movP_pic (shrP_pic hp)
  inn := fun x y => by
    rw [movP_in, shrP_in hp h]
    constructor
    · rintro g dx dy' ⟨t, ht, e, l, u⟩
      rw [List.mem_singleton.mp ht] at e l u
      dsimp only at e l u
      subst e
      have := g dx l u
      rw [show x - 0 + dx = x + dx by omega, show y - -dy = y + dy by omega] at this
      exact this
    · intro g d l u
      have := g d dy ⟨_, List.mem_singleton.mpr rfl, rfl, l, u⟩
      rw [show x - 0 + d = x + d by omega, show y - -dy = y + dy by omega]
      exact this
theorem Fits.zero {p : Pic} (hp : IsPic p) {a b : Int} (h : a ≤ b) : Fits [(0, a, b)] p (shrP a b p) where
  pic := shrP_pic hp
  inn := fun x y => by
    have := (Fits.one hp (dy := 0) h).inn x y
    rw [movP_in] at this
    rw [show x - 0 = x by omega, show y - -0 = y by omega] at this
    exact this
theorem Fits.com {ts us : List Tri} {p q r : Pic} (h1 : Fits ts p q) (h2 : Fits us p r) : Fits (ts ++ us) p (comP q r) where
  pic := comP_pic h1.pic
  inn := fun x y => by
    rw [comP_in h2.pic, h1.inn, h2.inn]
    constructor
    · rintro ⟨a, b⟩ dx dy ⟨t, ht, e⟩
      rcases List.mem_append.mp ht with ht | ht
      · exact a dx dy ⟨t, ht, e⟩
      · exact b dx dy ⟨t, ht, e⟩
    · intro g
      exact ⟨fun dx dy ⟨t, ht, e⟩ => g dx dy ⟨t, List.mem_append_left _ ht, e⟩, fun dx dy ⟨t, ht, e⟩ => g dx dy ⟨t, List.mem_append_right _ ht, e⟩⟩
theorem Fits.congr {ts us : List Tri} {p q : Pic} (h : Fits ts p q) (e : ∀ x y, inT us x y ↔ inT ts x y) : Fits us p q := ⟨h.pic, fun x y => by rw [h.inn]; simp only [e]⟩
/-- what it is to be made smaller by a form -/
structure Smaller (f : Fm) (p q : Pic) : Prop where
  pic : IsPic q
  few : nS q ≤ facF f * nS p
  row : mR q ≤ facF f * mR p
  inn : ∀ x y, inP q x y ↔ ∀ dx dy, inF f dx dy → inP p (x + dx) (y + dy)
theorem Smaller.eq {f : Fm} {p q q' : Pic} (h : Smaller f p q) (h' : Smaller f p q') : q = q' := pic_ext h.pic h'.pic fun x y => by rw [h.inn, h'.inn]
theorem Fits.smaller {f : Fm} {ts : List Tri} {p q : Pic} (h : Fits ts p q) (hp : IsPic p) (e : ∀ x y, inT ts x y ↔ inF f x y) (l : ts.length ≤ facF f) : Smaller f p q where
  pic := h.pic
  few := Nat.le_trans (h.nS hp) (Nat.mul_le_mul_right _ l)
  row := Nat.le_trans (h.row hp) (Nat.mul_le_mul_right _ l)
  inn := fun x y => by rw [h.inn]; simp only [e]
theorem Smaller.sum {f g : Fm} {p q r : Pic} (h1 : Smaller f p q) (h2 : Smaller g q r) : Smaller (.sum f g) p r where
  pic := h2.pic
  few := by
    have a := h1.few
    have b := h2.few
    have := Nat.mul_le_mul_left (facF g) a
    show _ ≤ facF f * facF g * _
    rw [Nat.mul_comm (facF f), Nat.mul_assoc]
    omega
  row := by
    have a := h1.row
    have b := h2.row
    have := Nat.mul_le_mul_left (facF g) a
    show _ ≤ facF f * facF g * _
    rw [Nat.mul_comm (facF f), Nat.mul_assoc]
    omega
  inn := fun x y => by
    rw [h2.inn]
    constructor
    · rintro g' dx dy ⟨ex, ey, a, b⟩
      have := (h1.inn _ _).mp (g' _ _ b) ex ey a
      rw [show x + (dx - ex) + ex = x + dx by omega, show y + (dy - ey) + ey = y + dy by omega] at this
      exact this
    · intro g' dx dy b
      rw [h1.inn]
      intro ex ey a
      have := g' (ex + dx) (ey + dy) ⟨ex, ey, a, by rw [show ex + dx - ex = dx by omega, show ey + dy - ey = dy by omega]; exact b⟩
      rw [show x + dx + ex = x + (ex + dx) by omega, show y + dy + ey = y + (ey + dy) by omega]
      exact this
/-- how many pairs of stretches of a row are met, at most -/
def costF : Fm → Nat → Nat
  | .box l u r d, m => facF (.box l u r d) * m * m
  | .cross a, m => facF (.cross a) * m * m
  | .shape s, m => facF (.shape s) * m * m
  | .sum f g, m => max (costF f m) (costF g (facF f * m))
theorem costF_mono : ∀ (f : Fm) {m n : Nat}, m ≤ n → costF f m ≤ costF f n
  | .box l u r d, m, n, h => Nat.mul_le_mul (Nat.mul_le_mul_left _ h) h
  | .cross a, m, n, h => Nat.mul_le_mul (Nat.mul_le_mul_left _ h) h
  | .shape s, m, n, h => Nat.mul_le_mul (Nat.mul_le_mul_left _ h) h
  | .sum f g, m, n, h => by
    have a := costF_mono f h
    have b := costF_mono g (Nat.mul_le_mul_left (facF f) h)
    show max _ _ ≤ max _ _
    omega
theorem okF_cell : ∀ {f : Fm}, okF f → ∃ x y, inF f x y
  | .box l u r d, h => by
    unfold okF at h
    exact ⟨0, 0, by omega, by omega, by omega, by omega⟩
  | .cross a, h => by
    unfold okF at h
    exact ⟨0, 0, .inl ⟨by omega, by omega, rfl⟩⟩
  | .shape p, h => by
    obtain ⟨hp, hn⟩ := h
    cases p with
    | nil => exact absurd rfl hn
    | cons t p =>
      obtain ⟨hr, hn⟩ := hp.2 t List.mem_cons_self
      obtain ⟨x, hx⟩ := row_cell hr hn
      exact ⟨x, t.1, t, List.mem_cons_self, rfl, hx⟩
  | .sum f g, h => by
    obtain ⟨x, y, a⟩ := okF_cell h.1
    obtain ⟨z, w, b⟩ := okF_cell h.2
    exact ⟨x + z, y + w, x, y, a, by rw [show x + z - x = z by omega, show y + w - y = w by omega]; exact b⟩
theorem Smaller.nil {f : Fm} (h : okF f) {q : Pic} (g : Smaller f [] q) : q = [] := pic_ext g.pic .nil fun x y => by
  rw [g.inn]
  constructor
  · intro k
    obtain ⟨dx, dy, a⟩ := okF_cell h
    exact absurd (k dx dy a) (inP_nil _ _)
  · intro k
    exact absurd k (inP_nil _ _)
theorem Greater.nil {f : Fm} {q : Pic} (g : Greater f [] q) : q = [] := pic_ext g.pic .nil fun x y => by
  rw [g.inn]
  constructor
  · rintro ⟨dx, dy, _, k⟩
    exact absurd k (inP_nil _ _)
  · intro k
    exact absurd k (inP_nil _ _)
theorem strOf_ord {p : Pic} (h : IsPic p) : ∀ t ∈ strOf p, t.2.1 ≤ t.2.2 := fun t ht => (str_start h ht).2.2.2.2
theorem picOf_str {p : Pic} (h : IsPic p) : picOf (strOf p) = p := picOf_id h fun x y => strOf_in p x y
/-- a form's cells -/
structure Cells (f : Fm) (c : Pic) : Prop where
  pic : IsPic c
  few : nS c ≤ facF f
  inn : ∀ x y, inP c x y ↔ inF f x y
theorem Greater.cells {f : Fm} {c : Pic} (g : Greater f (picOf [(0, 0, 0)]) c) : Cells f c where
  pic := g.pic
  few := by
    have a := g.few
    have b := Nat.mul_le_mul_left (facF f) (picOf_nS [((0, 0, 0) : Tri)])
    rw [List.length_singleton, Nat.mul_one] at b
    omega
  inn := fun x y => by
    rw [g.inn]
    simp only [picOf_in]
    constructor
    · rintro ⟨dx, dy, a, t, ht, e, h1, h2⟩
      rw [List.mem_singleton.mp ht] at e h1 h2
      dsimp only at e h1 h2
      rw [show x = dx by omega, show y = dy by omega]
      exact a
    · intro a
      exact ⟨x, y, a, _, List.mem_singleton.mpr rfl, by dsimp only; omega, by dsimp only; omega, by dsimp only; omega⟩
theorem Cells.ne {f : Fm} {c : Pic} (g : Cells f c) (h : okF f) : c ≠ [] := fun e => by
  obtain ⟨x, y, a⟩ := okF_cell h
  rw [← g.inn, e] at a
  exact inP_nil _ _ a
theorem Greater.same {f g : Fm} {p q q' : Pic} (h : Greater f p q) (h' : Greater g p q') (e : ∀ x y, inF f x y ↔ inF g x y) : q = q' := pic_ext h.pic h'.pic fun x y => by rw [h.inn, h'.inn]; simp only [e]
theorem Smaller.same {f g : Fm} {p q q' : Pic} (h : Smaller f p q) (h' : Smaller g p q') (e : ∀ x y, inF f x y ↔ inF g x y) : q = q' := pic_ext h.pic h'.pic fun x y => by rw [h.inn, h'.inn]; simp only [e]
theorem Cells.same {f g : Fm} {c c' : Pic} (h : Cells f c) (h' : Cells g c') (e : ∀ x y, inF f x y ↔ inF g x y) : c = c' := pic_ext h.pic h'.pic fun x y => by rw [h.inn, h'.inn]; exact e x y
theorem inF_comm (f g : Fm) (x y : Int) : inF (.sum f g) x y ↔ inF (.sum g f) x y := by
  constructor
  · rintro ⟨a, b, h1, h2⟩
    exact ⟨x - a, y - b, h2, by rw [show x - (x - a) = a by omega, show y - (y - b) = b by omega]; exact h1⟩
  · rintro ⟨a, b, h1, h2⟩
    exact ⟨x - a, y - b, h2, by rw [show x - (x - a) = a by omega, show y - (y - b) = b by omega]; exact h1⟩
theorem eSum (f g : Fm) : D.obj "Sum" [("first", encF f), ("second", encF g)] = encF (.sum f g) := rfl
theorem eShape (p : Pic) : D.obj "Shape" [("shape_cells", ePic p)] = encF (.shape p) := rfl
theorem costF_le2 {f g : Fm} {k l m : Nat} (kf : ∀ m, costF f m = facF f * m * m) (kg : ∀ m, costF g m = facF g * m * m) (hf : facF f ≤ k) (hg : facF g ≤ l) (hm : m ≤ n) : costF (.sum f g) m ≤ max (k * (n * n)) (l * ((k * n) * (k * n))) := by
  have a : costF f m ≤ k * (n * n) := by rw [kf, Nat.mul_assoc]; exact Nat.mul_le_mul hf (Nat.mul_le_mul hm hm)
  have b : costF g (facF f * m) ≤ l * ((k * n) * (k * n)) := by
    rw [kg, Nat.mul_assoc]
    exact Nat.mul_le_mul hg (Nat.mul_le_mul (Nat.mul_le_mul hf hm) (Nat.mul_le_mul hf hm))
  show max _ _ ≤ _
  omega
end P
namespace P
open PySem L2 FL
/-! where stretches may begin: i times u and j, i and j in short ranges -/
def LatS (u A B : Int) (a b : Nat) (x : Int) : Prop := ∃ i j : Int, A ≤ i ∧ i ≤ A + a ∧ B ≤ j ∧ j ≤ B + b ∧ x = i * u + j
def latL (u A B : Int) (a b : Nat) : List Int := (List.range (a + 1)).flatMap fun i => (List.range (b + 1)).map fun j => (A + (i : Nat)) * u + (B + (j : Nat))
theorem latL_mem {u A B x : Int} {a b : Nat} (h : LatS u A B a b x) : x ∈ latL u A B a b := by
  obtain ⟨i, j, h1, h2, h3, h4, rfl⟩ := h
  refine List.mem_flatMap.mpr ⟨(i - A).toNat, List.mem_range.mpr (by omega), List.mem_map.mpr ⟨(j - B).toNat, List.mem_range.mpr (by omega), ?_⟩⟩
  rw [show A + (((i - A).toNat : Nat) : Int) = i by omega, show B + (((j - B).toNat : Nat) : Int) = j by omega]
theorem latL_len (u A B : Int) (a b : Nat) : (latL u A B a b).length = (a + 1) * (b + 1) := by
  unfold latL
  rw [List.length_flatMap]
  simp only [List.length_map, List.length_range, List.map_const', List.sum_replicate_nat]
structure LatA (u A B Y : Int) (a b h : Nat) (p : Pic) : Prop where
  at_ : ∀ x y, inP p x y → ¬ inP p (x - 1) y → LatS u A B a b x ∧ Y ≤ y ∧ y ≤ Y + h
def Lat (u : Int) (a b h : Nat) (p : Pic) : Prop := ∃ A B Y, LatA u A B Y a b h p
/-- stretches that begin so -/
def LatT (u : Int) (a b h : Nat) (ts : List Tri) : Prop := ∃ A B Y : Int, ∀ t ∈ ts, LatS u A B a b t.2.1 ∧ Y ≤ t.1 ∧ t.1 ≤ Y + h
theorem LatT.sub {u : Int} {a b h : Nat} {ts us : List Tri} (l : LatT u a b h ts) (s : ∀ t ∈ us, t ∈ ts) : LatT u a b h us := let ⟨A, B, Y, g⟩ := l; ⟨A, B, Y, fun t ht => g t (s t ht)⟩
theorem Lat.row {u : Int} {a b h : Nat} {p : Pic} (hp : IsPic p) (l : Lat u a b h p) : mR p ≤ (a + 1) * (b + 1) := by
  obtain ⟨A, B, Y, l⟩ := l
  rw [← latL_len u A B a b]
  exact row_le hp fun y => ⟨_, Nat.le_refl _, fun x h1 h2 => latL_mem (l.at_ x y h1 h2).1⟩
theorem Lat.few {u : Int} {a b h : Nat} {p : Pic} (hp : IsPic p) (l : Lat u a b h p) : nS p ≤ (h + 1) * ((a + 1) * (b + 1)) := by
  obtain ⟨A, B, Y, l⟩ := l
  have e : ((List.range (h + 1)).flatMap fun k => (latL u A B a b).map fun x => ((Y + (k : Nat) : Int), x)).length = (h + 1) * ((a + 1) * (b + 1)) := by
    rw [List.length_flatMap]
    simp only [List.length_map, latL_len, List.map_const', List.sum_replicate_nat, List.length_range]
  rw [← e]
  refine nS_le hp _ fun x y h1 h2 => ?_
  obtain ⟨g1, g2, g3⟩ := l.at_ x y h1 h2
  refine List.mem_flatMap.mpr ⟨(y - Y).toNat, List.mem_range.mpr (by omega), List.mem_map.mpr ⟨x, latL_mem g1, ?_⟩⟩
  rw [show Y + (((y - Y).toNat : Nat) : Int) = y by omega]
theorem Lat.of {u : Int} {a b h : Nat} {ts : List Tri} (l : LatT u a b h ts) : Lat u a b h (picOf ts) := by
  obtain ⟨A, B, Y, g⟩ := l
  refine ⟨A, B, Y, ⟨fun x y h1 h2 => ?_⟩⟩
  rw [picOf_in] at h1 h2
  obtain ⟨t, ht, e, g1, g2⟩ := h1
  have hx : t.2.1 = x := by
    by_cases z : t.2.1 = x
    · exact z
    · exact absurd ⟨t, ht, e, by omega, by omega⟩ h2
  obtain ⟨k1, k2, k3⟩ := g t ht
  rw [hx] at k1
  exact ⟨k1, by omega, by omega⟩
theorem Lat.str {u : Int} {a b h : Nat} {p : Pic} (hp : IsPic p) (l : Lat u a b h p) : LatT u a b h (strOf p) := by
  obtain ⟨A, B, Y, l⟩ := l
  refine ⟨A, B, Y, fun t ht => ?_⟩
  obtain ⟨h1, h2, _⟩ := str_start hp ht
  exact l.at_ _ _ h1 h2
theorem Lat.nil (u : Int) (a b h : Nat) : Lat u a b h [] := ⟨0, 0, 0, ⟨fun x y h1 _ => absurd h1 (inP_nil _ _)⟩⟩
theorem Lat.mono {u : Int} {a b h a' b' h' : Nat} {p : Pic} (l : Lat u a b h p) (h1 : a ≤ a') (h2 : b ≤ b') (h3 : h ≤ h') : Lat u a' b' h' p := by
  obtain ⟨A, B, Y, l⟩ := l
  refine ⟨A, B, Y, ⟨fun x y g1 g2 => ?_⟩⟩
  obtain ⟨⟨i, j, k1, k2, k3, k4, k5⟩, k6, k7⟩ := l.at_ x y g1 g2
  exact ⟨⟨i, j, k1, by omega, k3, by omega, k5⟩, k6, by omega⟩
theorem Fits.lat {u : Int} {a b h a' b' h' : Nat} {ts : List Tri} {p q : Pic} (f : Fits ts p q) (hp : IsPic p) (l : Lat u a b h p) (lt : LatT u a' b' h' ts) : Lat u (a + a') (b + b') (h + h') q := by
  obtain ⟨A, B, Y, l⟩ := l
  obtain ⟨A', B', Y', g⟩ := lt
  refine ⟨A - A' - a', B - B' - b', Y - Y' - h', ⟨fun x y h1 h2 => ?_⟩⟩
  obtain ⟨t, ht, k1, k2⟩ := f.start hp h1 h2
  obtain ⟨⟨i, j, i1, i2, j1, j2, e⟩, y1, y2⟩ := l.at_ _ _ k1 k2
  obtain ⟨⟨i', j', i3, i4, j3, j4, e'⟩, y3, y4⟩ := g t ht
  refine ⟨⟨i - i', j - j', by omega, by omega, by omega, by omega, ?_⟩, by omega, by omega⟩
  rw [Int.sub_mul]
  omega
theorem Greater.lat {u : Int} {a b h a' b' h' : Nat} {ts : List Tri} {f : Fm} {p q : Pic} (G : Greater f p q) (e : ∀ x y, inT ts x y ↔ inF f x y) (hp : IsPic p) (l : Lat u a b h p) (lt : LatT u a' b' h' ts) : Lat u (a + a') (b + b') (h + h') q := by
  obtain ⟨A, B, Y, l⟩ := l
  obtain ⟨A', B', Y', g⟩ := lt
  refine ⟨A + A', B + B', Y + Y', ⟨fun x y h1 h2 => ?_⟩⟩
  rw [G.inn] at h1 h2
  obtain ⟨dx, dy, hd, hx⟩ := h1
  obtain ⟨t, ht, e1, e2, e3⟩ := (e _ _).mpr hd
  subst e1
  have hdx : t.2.1 = dx := by
    by_cases z : t.2.1 = dx
    · exact z
    · exact absurd ⟨dx - 1, t.1, (e _ _).mp ⟨t, ht, rfl, by omega, by omega⟩, by rw [show x - 1 - (dx - 1) = x - dx by omega]; exact hx⟩ h2
  have hx2 : ¬ inP p (x - dx - 1) (y - t.1) := fun z => h2 ⟨dx, t.1, hd, by rw [show x - 1 - dx = x - dx - 1 by omega]; exact z⟩
  obtain ⟨⟨i, j, i1, i2, j1, j2, e5⟩, y1, y2⟩ := l.at_ _ _ hx hx2
  obtain ⟨⟨i', j', i3, i4, j3, j4, e'⟩, y3, y4⟩ := g t ht
  refine ⟨⟨i + i', j + j', by omega, by omega, by omega, by omega, ?_⟩, by omega, by omega⟩
  rw [Int.add_mul]
  omega
/-- the stretches by which a plain form is met -/
def tsF : Fm → List Tri
  | .box l u r d => (0, -l, r) :: (List.range (u + d + 1).toNat).map fun i => (-u + (i : Nat), -l, r)
  | .cross a => ((0, -a, a) :: (List.range (0 + 0 + 1 : Int).toNat).map fun i : Nat => ((-(0 : Int) + (i : Nat), -a, a) : Tri)) ++ ((0, -(0 : Int), 0) :: (List.range (a + a + 1).toNat).map fun i : Nat => ((-a + (i : Nat), -(0 : Int), 0) : Tri))
  | .shape s => strOf s
  | .sum _ _ => []
theorem tsF_in : ∀ {f : Fm}, okF f → (∀ g h, f ≠ .sum g h) → ∀ x y, inT (tsF f) x y ↔ inF f x y
  | .box l u r d, h, _, x, y => by
    unfold okF at h
    have hm : ((0, -l, r) : Tri) ∈ (List.range (u + d + 1).toNat).map fun i : Nat => ((-u + (i : Nat), -l, r) : Tri) := List.mem_map.mpr ⟨u.toNat, List.mem_range.mpr (by omega), by rw [show -u + ((u.toNat : Nat) : Int) = 0 by omega]⟩
    have hd : inT (tsF (.box l u r d)) x y ↔ inT ((List.range (u + d + 1).toNat).map fun i : Nat => ((-u + (i : Nat), -l, r) : Tri)) x y := by
      constructor
      · rintro ⟨s, hs, e⟩
        rcases List.mem_cons.mp hs with rfl | hs
        · exact ⟨_, hm, e⟩
        · exact ⟨s, hs, e⟩
      · rintro ⟨s, hs, e⟩
        exact ⟨s, List.mem_cons_of_mem _ hs, e⟩
    rw [hd]
    exact box_cells l u r d x y (by omega)
  | .cross a, h, _, x, y => by
    unfold okF at h
    constructor
    · rintro ⟨t, ht, e, h1, h2⟩
      rcases List.mem_append.mp ht with ht | ht
      · rcases List.mem_cons.mp ht with rfl | ht
        · exact .inl ⟨h1, h2, e.symm⟩
        · obtain ⟨i, hi, rfl⟩ := List.mem_map.mp ht
          have hi := List.mem_range.mp hi
          dsimp only at e h1 h2
          exact .inl ⟨h1, h2, by omega⟩
      · rcases List.mem_cons.mp ht with rfl | ht
        · dsimp only at e h1 h2
          exact .inl ⟨by omega, by omega, e.symm⟩
        · obtain ⟨i, hi, rfl⟩ := List.mem_map.mp ht
          have hi := List.mem_range.mp hi
          dsimp only at e h1 h2
          exact .inr ⟨by omega, by omega, by omega⟩
    · rintro (⟨h1, h2, h3⟩ | ⟨h1, h2, h3⟩)
      · exact ⟨(0, -a, a), List.mem_append_left _ List.mem_cons_self, h3.symm, h1, h2⟩
      · refine ⟨_, List.mem_append_right _ (List.mem_cons_of_mem _ (List.mem_map.mpr ⟨(y + a).toNat, List.mem_range.mpr (by omega), rfl⟩)), ?_, ?_, ?_⟩
        · dsimp only; omega
        · dsimp only; omega
        · dsimp only; omega
  | .shape s, h, _, x, y => strOf_in s x y
  | .sum g h, _, n, _, _ => absurd rfl (n g h)
/-- a form whose plain parts begin near -/
def NearF (u : Int) : Fm → Prop
  | .box l u' r d => LatT u 6 6 4 (tsF (.box l u' r d)) ∧ facF (.box l u' r d) ≤ 6
  | .cross a => LatT u 6 6 4 (tsF (.cross a)) ∧ facF (.cross a) ≤ 6
  | .shape s => LatT u 6 6 4 (tsF (.shape s)) ∧ facF (.shape s) ≤ 6
  | .sum f g => NearF u f ∧ NearF u g
def leaves : Fm → Nat
  | .sum f g => leaves f + leaves g
  | _ => 1
/-- a picture that k plain forms have met -/
def LatK (u : Int) (k : Nat) (p : Pic) : Prop := Lat u (18 + 6 * k) (1 + 6 * k) (8 + 4 * k) p
theorem LatK.bound {u : Int} {k : Nat} {p : Pic} (hp : IsPic p) (l : LatK u k p) (hk : k ≤ 8) : mR p ≤ 3350 ∧ nS p ≤ 137350 := by
  have e : LatK u 8 p := Lat.mono l (by omega) (by omega) (by omega)
  exact ⟨Lat.row hp e, Lat.few hp e⟩
theorem LatK.mono {u : Int} {k m : Nat} {p : Pic} (l : LatK u k p) (h : k ≤ m) : LatK u m p := Lat.mono l (by omega) (by omega) (by omega)
/-! a form's openings and closings -/
theorem opened_in {f : Fm} {p s o : Pic} (S : Smaller f p s) (O : Greater f s o) (x y : Int) (h : inP o x y) : inP p x y := by
  obtain ⟨dx, dy, a, b⟩ := (O.inn x y).mp h
  have := (S.inn _ _).mp b dx dy a
  rw [show x - dx + dx = x by omega, show y - dy + dy = y by omega] at this
  exact this
theorem closed_in {f : Fm} {p g c : Pic} (G : Greater f p g) (C : Smaller f g c) (x y : Int) (h : inP p x y) : inP c x y := by
  rw [C.inn]
  intro dx dy a
  rw [G.inn]
  exact ⟨dx, dy, a, by rw [show x + dx - dx = x by omega, show y + dy - dy = y by omega]; exact h⟩
theorem Smaller.up {f : Fm} {p p' q q' : Pic} (S : Smaller f p q) (S' : Smaller f p' q') (h : ∀ x y, inP p x y → inP p' x y) (x y : Int) (g : inP q x y) : inP q' x y := by
  rw [S'.inn]
  intro dx dy a
  exact h _ _ ((S.inn x y).mp g dx dy a)
theorem Greater.up {f : Fm} {p p' q q' : Pic} (S : Greater f p q) (S' : Greater f p' q') (h : ∀ x y, inP p x y → inP p' x y) (x y : Int) (g : inP q x y) : inP q' x y := by
  rw [S'.inn]
  obtain ⟨dx, dy, a, b⟩ := (S.inn x y).mp g
  exact ⟨dx, dy, a, h _ _ b⟩
theorem opened_again {f : Fm} {p s o s2 o2 : Pic} (S : Smaller f p s) (O : Greater f s o) (S2 : Smaller f o s2) (O2 : Greater f s2 o2) : o2 = o := pic_ext O2.pic O.pic fun x y => by
  constructor
  · exact opened_in S2 O2 x y
  · exact O.up O2 (fun x y g => closed_in O S2 x y g) x y
theorem closed_again {f : Fm} {p g c g2 c2 : Pic} (G : Greater f p g) (C : Smaller f g c) (G2 : Greater f c g2) (C2 : Smaller f g2 c2) : c2 = c := pic_ext C2.pic C.pic fun x y => by
  constructor
  · exact C2.up C (fun x y h => opened_in C G2 x y h) x y
  · exact closed_in G2 C2 x y
end P
namespace P
open PySem L2 FL
/-! pictures whose stretches begin and end at steps of s, in a frame of 16 rows and 8 steps -/
def Step (s x0 x : Int) : Prop := ∃ i : Int, x = x0 + i * s
theorem Step.sub {s x0 x d : Int} (h : Step s x0 (x - d)) (k : Step s 0 d) : Step s x0 x := by
  obtain ⟨i, e⟩ := h
  obtain ⟨j, f⟩ := k
  exact ⟨i + j, by rw [Int.add_mul]; omega⟩
theorem Step.add {s x0 x d : Int} (h : Step s x0 (x + d)) (k : Step s 0 d) : Step s x0 x := by
  obtain ⟨i, e⟩ := h
  obtain ⟨j, f⟩ := k
  exact ⟨i - j, by rw [Int.sub_mul]; omega⟩
def Al (s x0 : Int) (p : Pic) : Prop := ∀ x y, (inP p x y ∧ ¬ inP p (x - 1) y) ∨ (¬ inP p x y ∧ inP p (x - 1) y) → Step s x0 x
def Bx (s x0 : Int) (p : Pic) : Prop := ∃ I Y : Int, ∀ x y, inP p x y → (x0 + I * s ≤ x ∧ x < x0 + (I + 8) * s) ∧ Y ≤ y ∧ y < Y + 16
theorem Al.less {s x0 : Int} {p q : Pic} (hq : IsPic q) (a : Al s x0 p) (b : Al s x0 q) : Al s x0 (lesP p q) := fun x y h => by
  rw [lesP_in hq, lesP_in hq] at h
  by_cases h1 : inP p x y <;> by_cases h2 : inP p (x - 1) y <;> by_cases h3 : inP q x y <;> by_cases h4 : inP q (x - 1) y <;>
    first
    | exact a x y (.inl ⟨h1, h2⟩)
    | exact a x y (.inr ⟨h1, h2⟩)
    | exact b x y (.inl ⟨h3, h4⟩)
    | exact b x y (.inr ⟨h3, h4⟩)
    | (exfalso; simp [h1, h2, h3, h4] at h)
theorem Bx.sub {s x0 : Int} {p q : Pic} (b : Bx s x0 p) (h : ∀ x y, inP q x y → inP p x y) : Bx s x0 q := by
  obtain ⟨I, Y, b⟩ := b
  exact ⟨I, Y, fun x y g => b x y (h x y g)⟩
theorem Bx.shift {s x0 : Int} {p q : Pic} (b : Bx s x0 p) {m dy : Int} (h : ∀ x y, inP q x y → inP p (x + m * s) (y + dy)) : Bx s x0 q := by
  obtain ⟨I, Y, b⟩ := b
  refine ⟨I - m, Y - dy, fun x y g => ?_⟩
  have := b _ _ (h x y g)
  have e1 : (I - m) * s = I * s - m * s := Int.sub_mul _ _ _
  have e2 : (I - m + 8) * s = (I + 8) * s - m * s := by rw [show I - m + 8 = I + 8 - m by omega, Int.sub_mul]
  omega
theorem Bx.few {s x0 : Int} (hs : 0 < s) {p : Pic} (hp : IsPic p) (b : Bx s x0 p) (a : Al s x0 p) : nS p ≤ 128 := by
  obtain ⟨I, Y, b⟩ := b
  have l : Lat s 7 0 15 p := ⟨I, x0, Y, ⟨fun x y h1 h2 => by
    obtain ⟨i, e⟩ := a x y (.inl ⟨h1, h2⟩)
    obtain ⟨⟨b1, b2⟩, b3, b4⟩ := b x y h1
    have c1 : I ≤ i := by
      by_cases z : I ≤ i
      · exact z
      · have := Int.mul_le_mul_of_nonneg_right (show i + 1 ≤ I by omega) (Int.le_of_lt hs)
        have e3 : (i + 1) * s = i * s + s := by rw [Int.add_mul, Int.one_mul]
        omega
    have c2 : i ≤ I + 7 := by
      by_cases z : i ≤ I + 7
      · exact z
      · have := Int.mul_le_mul_of_nonneg_right (show I + 8 ≤ i by omega) (Int.le_of_lt hs)
        omega
    exact ⟨⟨i, x0, c1, by omega, Int.le_refl _, by omega, by omega⟩, b3, by omega⟩⟩⟩
  have := Lat.few hp l
  omega
/-- a form of two cells or more whose stretches begin and end at steps of s -/
structure FormA (s : Int) (f : Fm) : Prop where
  ok : okF f
  fac : facF f ≤ 16
  dep : depF f ≤ 3
  cost : ∀ m, m ≤ 128 → costF f m ≤ 16000000
  al : ∀ x y, inF f x y → (¬ inF f (x - 1) y → Step s 0 x) ∧ (¬ inF f (x + 1) y → Step s 0 x)
  two : ∃ m1 y1 m2 y2 : Int, inF f (m1 * s) y1 ∧ inF f (m2 * s) y2 ∧ (y1 ≠ y2 ∨ m1 ≠ m2)
theorem Al.greater {s x0 : Int} {f : Fm} (F : FormA s f) {p q : Pic} (a : Al s x0 p) (G : Greater f p q) : Al s x0 q := fun x y h => by
  rw [G.inn, G.inn] at h
  rcases h with ⟨⟨dx, dy, h1, h2⟩, h3⟩ | ⟨h3, dx, dy, h1, h2⟩
  · have n1 : ¬ inF f (dx - 1) dy := fun z => h3 ⟨dx - 1, dy, z, by rw [show x - 1 - (dx - 1) = x - dx by omega]; exact h2⟩
    have n2 : ¬ inP p (x - dx - 1) (y - dy) := fun z => h3 ⟨dx, dy, h1, by rw [show x - 1 - dx = x - dx - 1 by omega]; exact z⟩
    exact (a _ _ (.inl ⟨h2, n2⟩)).sub ((F.al _ _ h1).1 n1)
  · have n1 : ¬ inF f (dx + 1) dy := fun z => h3 ⟨dx + 1, dy, z, by rw [show x - (dx + 1) = x - 1 - dx by omega]; exact h2⟩
    have n2 : ¬ inP p (x - dx) (y - dy) := fun z => h3 ⟨dx, dy, h1, z⟩
    exact (a (x - dx) _ (.inr ⟨n2, by rw [show x - dx - 1 = x - 1 - dx by omega]; exact h2⟩)).sub ((F.al _ _ h1).2 n1)
theorem Al.smaller {s x0 : Int} {f : Fm} (F : FormA s f) {p q : Pic} (a : Al s x0 p) (S : Smaller f p q) : Al s x0 q := fun x y h => by
  rw [S.inn, S.inn] at h
  rcases h with ⟨h3, h4⟩ | ⟨h4, h3⟩
  · obtain ⟨dx, h4⟩ := Classical.not_forall.mp h4
    obtain ⟨dy, h4⟩ := Classical.not_forall.mp h4
    obtain ⟨h1, h2⟩ := Classical.not_imp.mp h4
    have n1 : ¬ inF f (dx - 1) dy := fun z => h2 (by have := h3 _ _ z; rw [show x + (dx - 1) = x - 1 + dx by omega] at this; exact this)
    exact (a (x + dx) _ (.inl ⟨h3 _ _ h1, by rw [show x + dx - 1 = x - 1 + dx by omega]; exact h2⟩)).add ((F.al _ _ h1).1 n1)
  · obtain ⟨dx, h4⟩ := Classical.not_forall.mp h4
    obtain ⟨dy, h4⟩ := Classical.not_forall.mp h4
    obtain ⟨h1, h2⟩ := Classical.not_imp.mp h4
    have n1 : ¬ inF f (dx + 1) dy := fun z => h2 (by have := h3 _ _ z; rw [show x - 1 + (dx + 1) = x + dx by omega] at this; exact this)
    exact (a (x + dx) _ (.inr ⟨h2, by rw [show x + dx - 1 = x - 1 + dx by omega]; exact h3 _ _ h1⟩)).add ((F.al _ _ h1).2 n1)
theorem FormA.sum {s : Int} {f g : Fm} (F : FormA s f) (G : FormA s g) (hf : facF f ≤ 4) (hg : facF g ≤ 4) (df : depF f ≤ 2) (dg : depF g ≤ 2) (cf : ∀ m, costF f m = facF f * m * m) (cg : ∀ m, costF g m = facF g * m * m) : FormA s (.sum f g) where
  ok := ⟨F.ok, G.ok⟩
  fac := Nat.le_trans (Nat.mul_le_mul hf hg) (by decide)
  dep := by show max (depF f) (depF g) + 1 ≤ 3; omega
  cost := fun m hm => Nat.le_trans (costF_le2 cf cg hf hg hm) (by decide)
  al := fun x y h => by
    obtain ⟨x1, y1, h1, h2⟩ := h
    constructor
    · intro n
      have n1 : ¬ inF f (x1 - 1) y1 := fun z => n ⟨x1 - 1, y1, z, by rw [show x - 1 - (x1 - 1) = x - x1 by omega]; exact h2⟩
      have n2 : ¬ inF g (x - x1 - 1) (y - y1) := fun z => n ⟨x1, y1, h1, by rw [show x - 1 - x1 = x - x1 - 1 by omega]; exact z⟩
      exact Step.sub ((G.al _ _ h2).1 n2) ((F.al _ _ h1).1 n1)
    · intro n
      have n1 : ¬ inF f (x1 + 1) y1 := fun z => n ⟨x1 + 1, y1, z, by rw [show x + 1 - (x1 + 1) = x - x1 by omega]; exact h2⟩
      have n2 : ¬ inF g (x - x1 + 1) (y - y1) := fun z => n ⟨x1, y1, h1, by rw [show x + 1 - x1 = x - x1 + 1 by omega]; exact z⟩
      exact Step.sub ((G.al _ _ h2).2 n2) ((F.al _ _ h1).2 n1)
  two := by
    obtain ⟨m1, y1, m2, y2, h1, h2, h3⟩ := F.two
    obtain ⟨m, y, _, _, h4, _, _⟩ := G.two
    refine ⟨m1 + m, y1 + y, m2 + m, y2 + y, ⟨m1 * s, y1, h1, ?_⟩, ⟨m2 * s, y2, h2, ?_⟩, by omega⟩
    · rw [Int.add_mul, show m1 * s + m * s - m1 * s = m * s by omega, show y1 + y - y1 = y by omega]
      exact h4
    · rw [Int.add_mul, show m2 * s + m * s - m2 * s = m * s by omega, show y2 + y - y2 = y by omega]
      exact h4
/-! cores and the picture that they make -/
def gS (f : Fm) (S : Int → Int → Prop) : Int → Int → Prop := fun x y => ∃ dx dy, inF f dx dy ∧ S (x - dx) (y - dy)
def gSn (f : Fm) : Nat → (Int → Int → Prop) → Int → Int → Prop
  | 0, S => S
  | n + 1, S => gS f (gSn f n S)
theorem gS_up {f : Fm} {S T : Int → Int → Prop} (h : ∀ x y, S x y → T x y) (x y : Int) (g : gS f S x y) : gS f T x y := by
  obtain ⟨dx, dy, a, b⟩ := g
  exact ⟨dx, dy, a, h _ _ b⟩
theorem gSn_shift {f : Fm} {bx by' : Int} (hb : inF f bx by') (S : Int → Int → Prop) : ∀ (k j : Nat) (x y : Int), gSn f j S x y → gSn f (j + k) S (x + (k : Int) * bx) (y + (k : Int) * by')
  | 0, j, x, y, h => by simpa using h
  | k + 1, j, x, y, h => by
    have := gSn_shift hb S k j x y h
    refine ⟨bx, by', hb, ?_⟩
    have e1 : ((k + 1 : Nat) : Int) * bx = (k : Int) * bx + bx := by rw [Int.natCast_succ, Int.add_mul, Int.one_mul]
    have e2 : ((k + 1 : Nat) : Int) * by' = (k : Int) * by' + by' := by rw [Int.natCast_succ, Int.add_mul, Int.one_mul]
    rw [e1, e2, show x + ((k : Int) * bx + bx) - bx = x + (k : Int) * bx by omega, show y + ((k : Int) * by' + by') - by' = y + (k : Int) * by' by omega]
    exact this
/-- the cores of p by f -/
def Ch (f : Fm) : Pic → List Pic → Prop
  | p, [] => p = []
  | p, c :: cs => p ≠ [] ∧ ∃ s o, Smaller f p s ∧ Greater f s o ∧ c = lesP p o ∧ Ch f s cs
theorem gSn_ex {f : Fm} {ι : Type} (S : ι → Int → Int → Prop) (x y : Int) : gS f (fun x y => ∃ i, S i x y) x y ↔ ∃ i, gS f (S i) x y := by
  constructor
  · rintro ⟨dx, dy, a, i, b⟩
    exact ⟨i, dx, dy, a, b⟩
  · rintro ⟨i, dx, dy, a, b⟩
    exact ⟨dx, dy, a, i, b⟩
theorem Ch.whole {f : Fm} : ∀ (cs : List Pic) (p : Pic), Ch f p cs → ∀ x y, inP p x y ↔ ∃ i c, cs[i]? = some c ∧ gSn f i (inP c) x y
  | [], p, h, x, y => by
    have : p = [] := h
    subst this
    constructor
    · intro z; exact absurd z (inP_nil _ _)
    · rintro ⟨i, c, h, _⟩; simp at h
  | c :: cs, p, h, x, y => by
    obtain ⟨hn, s, o, S, O, rfl, hc⟩ := h
    have ih := Ch.whole cs s hc
    have e : inP p x y ↔ inP (lesP p o) x y ∨ inP o x y := by
      rw [lesP_in O.pic]
      constructor
      · intro z
        by_cases w : inP o x y
        · exact .inr w
        · exact .inl ⟨z, w⟩
      · rintro (⟨z, _⟩ | z)
        · exact z
        · exact opened_in S O x y z
    rw [e, O.inn]
    constructor
    · rintro (z | ⟨dx, dy, a, b⟩)
      · exact ⟨0, _, rfl, z⟩
      · obtain ⟨i, c, h1, h2⟩ := (ih _ _).mp b
        exact ⟨i + 1, c, by simpa using h1, dx, dy, a, h2⟩
    · rintro ⟨i, c, h1, h2⟩
      cases i with
      | zero =>
        simp at h1
        subst h1
        exact .inl h2
      | succ i =>
        obtain ⟨dx, dy, a, b⟩ := h2
        exact .inr ⟨dx, dy, a, (ih _ _).mpr ⟨i, c, by simpa using h1, b⟩⟩
/-- two cells at least -/
theorem cnt_two {c : Pic} (hc : IsPic c) {x1 y1 x2 y2 : Int} (h1 : inP c x1 y1) (h2 : inP c x2 y2) (h : x1 ≠ x2 ∨ y1 ≠ y2) : 2 ≤ cntPi c := by
  have one : ∀ x y : Int, IsPic [(y, [(x, x)])] ∧ (∀ X Y, inP [(y, [(x, x)])] X Y ↔ X = x ∧ Y = y) ∧ cntPi [(y, [(x, x)])] = 1 := fun x y => by
    refine ⟨⟨List.pairwise_singleton _ _, fun t ht => by rw [List.mem_singleton.mp ht]; exact ⟨⟨List.pairwise_singleton _ _, fun p hp => by rw [List.mem_singleton.mp hp]; exact Int.le_refl _⟩, by simp⟩⟩, fun X Y => ?_, by simp [cntPi, cntR]⟩
    constructor
    · rintro ⟨t, ht, e, p, hp, a, b⟩
      rw [List.mem_singleton.mp ht] at e hp
      rw [List.mem_singleton.mp hp] at a b
      dsimp only at e a b
      omega
    · rintro ⟨rfl, rfl⟩
      exact ⟨_, List.mem_singleton.mpr rfl, rfl, _, List.mem_singleton.mpr rfl, Int.le_refl _, Int.le_refl _⟩
  obtain ⟨a1, a2, a3⟩ := one x1 y1
  obtain ⟨b1, b2, b3⟩ := one x2 y2
  have key : ∀ {w v : Pic}, IsPic w → IsPic v → (∀ x y, inP v x y → inP w x y) → cntPi w = cntPi (lesP w v) + cntPi v := fun {w v} hw hv sub => by
    have hl := lesP_pic (q := v) hw
    have := cnt_addP hw .nil hl hv fun x y => by
      have e1 := hasP_iff hw (x := x) (y := y)
      have e2 := hasP_iff hv (x := x) (y := y)
      have e3 := hasP_iff hl (x := x) (y := y)
      have e4 : hasP [] x y = false := rfl
      rw [lesP_in hv] at e3
      rw [e4]
      by_cases z1 : inP v x y
      · have z2 := sub x y z1
        rw [e2.mpr z1, e1.mpr z2, show hasP (lesP w v) x y = false from by rw [Bool.eq_false_iff]; exact fun z => (e3.mp z).2 z1]
        try simp
      · have f2 : hasP v x y = false := by rw [Bool.eq_false_iff]; exact fun z => z1 (e2.mp z)
        by_cases z2 : inP w x y
        · rw [f2, e1.mpr z2, e3.mpr ⟨z2, z1⟩]
        · rw [f2, show hasP w x y = false from by rw [Bool.eq_false_iff]; exact fun z => z2 (e1.mp z), show hasP (lesP w v) x y = false from by rw [Bool.eq_false_iff]; exact fun z => z2 (e3.mp z).1]
          try simp
    have z : cntPi [] = 0 := rfl
    omega
  have k1 := key hc a1 fun x y g => by obtain ⟨rfl, rfl⟩ := (a2 x y).mp g; exact h1
  have hl := lesP_pic (q := [(y1, [(x1, x1)])]) hc
  have k2 := key hl b1 fun x y g => by
    obtain ⟨rfl, rfl⟩ := (b2 x y).mp g
    rw [lesP_in a1]
    refine ⟨h2, fun z => ?_⟩
    have := (a2 _ _).mp z
    omega
  have nn : ∀ {w : Pic}, IsPic w → 0 ≤ cntPi w := fun {w} hw => by
    have : ∀ (w : Pic), (∀ t ∈ w, IsRow t.2) → 0 ≤ cntPi w := fun w => by
      induction w with
      | nil => intro _; exact Int.le_refl _
      | cons t w ih =>
        intro h
        have h1 := ih fun s hs => h s (List.mem_cons_of_mem _ hs)
        have h2 := len_cntR (h t List.mem_cons_self)
        have h3 : cntPi (t :: w) = cntR t.2 + cntPi w := by simp [cntPi]
        omega
    exact this w fun t ht => (hw.2 t ht).1
  have := nn (lesP_pic (q := [(y2, [(x2, x2)])]) hl)
  omega
end P
namespace P
open PySem L2 FL
/-! single cells put together in order -/
def Beh2 (p : Pic) (u : Tri) : Prop := ∀ y a s r, p = (y, a :: s) :: r → y < u.1 ∨ (y = u.1 ∧ a.2 ≤ u.2.1)
theorem stepP_beh2 {p : Pic} {t u : Tri} (hne : ∀ v ∈ p, v.2 ≠ []) (ht : t.2.2 = t.2.1) (hb : Beh2 p t) (h : t.1 < u.1 ∨ (t.1 = u.1 ∧ t.2.1 ≤ u.2.1)) : Beh2 (stepP p t) u := by
  intro y a s r e
  have fin : ∀ b : Int, b = t.2.1 → y = t.1 → a.2 = b → y < u.1 ∨ (y = u.1 ∧ a.2 ≤ u.2.1) := fun b e1 e2 e3 => by omega
  cases p with
  | nil =>
    have e : [((t.1, [t.2]) : Int × List St2)] = (y, a :: s) :: r := e
    have e1 := (List.cons.inj e).1
    have e2 := congrArg Prod.fst e1
    have e3 := (List.cons.inj (congrArg Prod.snd e1)).1
    exact fin _ ht e2.symm (by rw [← e3])
  | cons g p =>
    obtain ⟨y0, s0⟩ := g
    have e : (if y0 = t.1 then (y0, stepR s0 t.2) :: p else (t.1, [t.2]) :: (y0, s0) :: p) = (y, a :: s) :: r := e
    by_cases k : y0 = t.1
    · rw [if_pos k] at e
      have e1 := (List.cons.inj e).1
      have e2 : y0 = y := congrArg Prod.fst e1
      have e3 : stepR s0 t.2 = a :: s := congrArg Prod.snd e1
      cases s0 with
      | nil => exact absurd rfl (hne _ List.mem_cons_self)
      | cons b s0 =>
        have hb := hb y0 b s0 p rfl
        by_cases c : t.2.1 ≤ b.2 + 1
        · rw [stepR_hit c] at e3
          have e4 := (List.cons.inj e3).1
          have e5 : max b.2 t.2.2 = a.2 := congrArg Prod.snd e4
          exact fin _ rfl (by omega) (by omega)
        · rw [stepR_miss c] at e3
          have e4 := (List.cons.inj e3).1
          exact fin _ ht (by omega) (by rw [← e4])
    · rw [if_neg k] at e
      have e1 := (List.cons.inj e).1
      have e2 := congrArg Prod.fst e1
      have e3 := (List.cons.inj (congrArg Prod.snd e1)).1
      exact fin _ ht e2.symm (by rw [← e3])
/-- the picture of single cells -/
def ptsT (cells : List (Int × Int)) : List Tri := cells.map fun c => (c.2, c.1, c.1)
def ptsP (cells : List (Int × Int)) : Pic := picOf (ptsT cells)
theorem ptsP_pic (cells : List (Int × Int)) : IsPic (ptsP cells) := picOf_pic _
theorem ptsP_nS (cells : List (Int × Int)) : nS (ptsP cells) ≤ cells.length := by
  have := picOf_nS (ptsT cells)
  unfold ptsT at this
  rw [List.length_map] at this
  exact this
theorem ptsP_in (cells : List (Int × Int)) (x y : Int) : inP (ptsP cells) x y ↔ (x, y) ∈ cells := by
  unfold ptsP
  rw [picOf_in]
  constructor
  · rintro ⟨t, ht, e1, e2, e3⟩
    obtain ⟨c, hc, rfl⟩ := List.mem_map.mp ht
    have : c = (x, y) := Prod.ext (by dsimp only at *; omega) e1
    rw [← this]; exact hc
  · intro h
    exact ⟨(y, x, x), List.mem_map.mpr ⟨(x, y), h, rfl⟩, rfl, Int.le_refl _, Int.le_refl _⟩
end P
namespace P
open PySem L2 FL
/-! a picture's cells as a list -/
def cellR (y : Int) (r : List St2) : List (Int × Int) := r.flatMap fun s => (List.range (s.2 + 1 - s.1).toNat).map fun i => (s.1 + ((i : Nat) : Int), y)
def cellL (p : Pic) : List (Int × Int) := p.flatMap fun t => cellR t.1 t.2
theorem cellR_mem {y : Int} {r : List St2} {c : Int × Int} : c ∈ cellR y r ↔ c.2 = y ∧ inR r c.1 := by
  unfold cellR
  rw [List.mem_flatMap]
  constructor
  · rintro ⟨s, hs, h⟩
    obtain ⟨i, hi, rfl⟩ := List.mem_map.mp h
    have hi := List.mem_range.mp hi
    exact ⟨rfl, s, hs, by dsimp only; omega, by dsimp only; omega⟩
  · rintro ⟨e, s, hs, h1, h2⟩
    exact ⟨s, hs, List.mem_map.mpr ⟨(c.1 - s.1).toNat, List.mem_range.mpr (by omega), Prod.ext (by dsimp only; omega) e.symm⟩⟩
theorem cellL_mem {p : Pic} {c : Int × Int} : c ∈ cellL p ↔ inP p c.1 c.2 := by
  unfold cellL
  rw [List.mem_flatMap]
  constructor
  · rintro ⟨t, ht, h⟩
    rw [cellR_mem] at h
    exact ⟨t, ht, h.1.symm, h.2⟩
  · rintro ⟨t, ht, e, h⟩
    exact ⟨t, ht, cellR_mem.mpr ⟨e.symm, h⟩⟩
theorem cellR_nodup {y : Int} {r : List St2} (h : IsRow r) : (cellR y r).Nodup := by
  unfold cellR
  refine List.pairwise_flatMap.mpr ⟨fun s hs => List.pairwise_map.mpr (List.pairwise_lt_range.imp fun g z => ?_), h.1.imp fun {a b} g => ?_⟩
  · have := congrArg Prod.fst z
    dsimp only at this
    omega
  · intro x hx z hz e
    subst e
    obtain ⟨i, hi, rfl⟩ := List.mem_map.mp hx
    obtain ⟨j, hj, e⟩ := List.mem_map.mp hz
    have := congrArg Prod.fst e
    have hi := List.mem_range.mp hi
    dsimp only at this
    omega
theorem cellL_nodup {p : Pic} (h : IsPic p) : (cellL p).Nodup := by
  unfold cellL
  refine List.pairwise_flatMap.mpr ⟨fun t ht => cellR_nodup (h.2 t ht).1, h.1.imp fun {a b} g => ?_⟩
  intro x hx z hz e
  subst e
  have h1 := (cellR_mem.mp hx).1
  have h2 := (cellR_mem.mp hz).1
  omega
theorem cellR_len {y : Int} : ∀ {r : List St2}, (∀ s ∈ r, s.1 ≤ s.2) → ((cellR y r).length : Int) = cntR r
  | [], _ => rfl
  | s :: r, h => by
    have h1 := cellR_len (y := y) (r := r) fun u hu => h u (List.mem_cons_of_mem _ hu)
    have h2 := h s List.mem_cons_self
    have e : cellR y (s :: r) = ((List.range (s.2 + 1 - s.1).toNat).map fun i => (s.1 + ((i : Nat) : Int), y)) ++ cellR y r := rfl
    rw [e, List.length_append, List.length_map, List.length_range, cntR_cons]
    omega
theorem cellL_len : ∀ {p : Pic}, (∀ t ∈ p, IsRow t.2) → ((cellL p).length : Int) = cntPi p
  | [], _ => rfl
  | t :: p, h => by
    have h1 := cellL_len (p := p) fun u hu => h u (List.mem_cons_of_mem _ hu)
    have h2 := cellR_len (y := t.1) (h t List.mem_cons_self).2
    have e : cellL (t :: p) = cellR t.1 t.2 ++ cellL p := rfl
    have e2 : cntPi (t :: p) = cntR t.2 + cntPi p := by simp [cntPi]
    rw [e, List.length_append, e2, ← h1, ← h2]
    omega
/-- the count of a picture is the count of any list of its cells, each once -/
theorem count_list {p : Pic} (hp : IsPic p) {L : List (Int × Int)} (hn : L.Nodup) (hm : ∀ c, c ∈ L ↔ inP p c.1 c.2) : (L.length : Int) = cntPi p := by
  rw [← cellL_len fun t ht => (hp.2 t ht).1]
  have h1 := nodup_le hn (m := cellL p) fun c hc => cellL_mem.mpr ((hm c).mp hc)
  have h2 := nodup_le (cellL_nodup hp) (m := L) fun c hc => (hm c).mpr (cellL_mem.mp hc)
  omega
end P
namespace P
open PySem L2 FL TL
/-! texts of rows and of pictures -/
theorem fo_nx {b : D → Ev0 → Res Ev0} {body : Ev0 → Out} {d : D} {ds : List D} {ρ ρ1 ρ2 : Ev0} (h1 : b d ρ = .ok ρ1) (h2 : body ρ1 = .nx ρ2) : forO b body (d :: ds) ρ = forO b body ds ρ2 := by
  conv => lhs; unfold forO
  rw [h1]
  dsimp only
  rw [h2]
theorem fo_ex {b : D → Ev0 → Res Ev0} {body : Ev0 → Out} {d : D} {ds : List D} {ρ ρ1 : Ev0} {c : Str} (h1 : b d ρ = .ok ρ1) (h2 : body ρ1 = .ex c) : forO b body (d :: ds) ρ = .ex c := by
  conv => lhs; unfold forO
  rw [h1]
  dsimp only
  rw [h2]
theorem fo_rt {b : D → Ev0 → Res Ev0} {body : Ev0 → Out} {d e : D} {ds : List D} {ρ ρ1 : Ev0} (h1 : b d ρ = .ok ρ1) (h2 : body ρ1 = .rt e) : forO b body (d :: ds) ρ = .rt e := by
  conv => lhs; unfold forO
  rw [h1]
  dsimp only
  rw [h2]
theorem sum_le {k : Nat} : ∀ {ys : List (List Nat)}, (∀ y ∈ ys, y.length ≤ k) → (ys.map (·.length)).sum ≤ ys.length * k
  | [], _ => by simp
  | y :: ys, h => by
    have h1 := h y List.mem_cons_self
    have h2 := sum_le (ys := ys) fun x hx => h x (List.mem_cons_of_mem _ hx)
    rw [List.map_cons, List.sum_cons, List.length_cons, Nat.add_mul]
    omega
/-- the weight of a picture's text -/
def wP (p : Pic) : Nat := (p.map fun t => t.2.length + 1).sum
/-- a stretch as a word -/
def stW (s : St2) : List Nat := if s.1 = s.2 then numZ s.1 else numZ s.1 ++ (46 :: 46 :: numZ s.2)
def lineL (t : Int × List St2) : List Nat := joinL [32] ((numZ t.1 ++ [58]) :: t.2.map stW)
def nothingL : List Nat := [110, 111, 116, 104, 105, 110, 103]
def showL (p : Pic) : List Nat := if p = [] then nothingL else joinL [59, 32] (p.map lineL)
/-- a number that is not too great -/
def Bd (i : Int) : Prop := i.natAbs < 10 ^ 100
theorem Bd.log {i : Int} (h : Bd i) : i.natAbs.log2 < 1920 := log2_lt (k := 400) (Nat.lt_trans h (by decide +kernel)) (by decide) (by decide)
theorem Bd.len {i : Int} (h : Bd i) : (numZ i).length ≤ 101 := numZ_len (by decide) h
theorem stW_asc (s : St2) : Asc (stW s) := by
  unfold stW
  split
  · exact numZ_asc _
  · exact (numZ_asc _).app (((numZ_asc _).cons (by decide)).cons (by decide))
theorem joinL_asc {S : List Nat} (hS : Asc S) : ∀ {ps : List (List Nat)}, (∀ p ∈ ps, Asc p) → Asc (joinL S ps)
  | [], _ => by intro c hc; cases hc
  | [p], h => by
    show Asc p
    exact h p List.mem_cons_self
  | p :: q :: r, h => by
    have : joinL S (p :: q :: r) = p ++ S ++ joinL S (q :: r) := (List.append_assoc _ _ _).symm
    rw [this]
    exact ((h p List.mem_cons_self).app hS).app (joinL_asc hS fun x hx => h x (List.mem_cons_of_mem _ hx))
theorem joinL_mem {S : List Nat} : ∀ {ps : List (List Nat)} {c : Nat}, c ∈ joinL S ps → c ∈ S ∨ ∃ p ∈ ps, c ∈ p
  | [], c, h => by cases h
  | [p], c, h => .inr ⟨p, List.mem_cons_self, h⟩
  | p :: q :: r, c, h => by
    have : joinL S (p :: q :: r) = p ++ S ++ joinL S (q :: r) := (List.append_assoc _ _ _).symm
    rw [this] at h
    rcases List.mem_append.mp h with h | h
    · rcases List.mem_append.mp h with h | h
      · exact .inr ⟨p, List.mem_cons_self, h⟩
      · exact .inl h
    · rcases joinL_mem h with h | ⟨x, hx, h⟩
      · exact .inl h
      · exact .inr ⟨x, List.mem_cons_of_mem _ hx, h⟩
theorem joinL_len {S : List Nat} : ∀ (ps : List (List Nat)), (joinL S ps).length ≤ (ps.map (·.length)).sum + ps.length * S.length
  | [] => by simp [joinL]
  | [p] => by
    show p.length ≤ _
    simp
  | p :: q :: r => by
    have : joinL S (p :: q :: r) = p ++ S ++ joinL S (q :: r) := (List.append_assoc _ _ _).symm
    have ih := joinL_len (S := S) (q :: r)
    rw [this, List.length_append, List.length_append, List.map_cons, List.sum_cons, List.length_cons, Nat.add_mul]
    omega
theorem stW_mem {s : St2} {c : Nat} (h : c ∈ stW s) : (48 ≤ c ∧ c ≤ 57) ∨ c = 45 ∨ c = 46 := by
  have key : ∀ {i : Int} {c : Nat}, c ∈ numZ i → (48 ≤ c ∧ c ≤ 57) ∨ c = 45 ∨ c = 46 := fun {i c} h => by
    unfold numZ at h
    split at h
    · rcases List.mem_cons.mp h with e | e
      · exact .inr (.inl e)
      · exact .inl (numL_digits _ c e)
    · exact .inl (numL_digits _ c h)
  unfold stW at h
  split at h
  · exact key h
  · rcases List.mem_append.mp h with h | h
    · exact key h
    · rcases List.mem_cons.mp h with e | h
      · exact .inr (.inr e)
      · rcases List.mem_cons.mp h with e | h
        · exact .inr (.inr e)
        · exact key h
theorem numZ_mem {i : Int} {c : Nat} (h : c ∈ numZ i) : (48 ≤ c ∧ c ≤ 57) ∨ c = 45 := by
  unfold numZ at h
  split at h
  · rcases List.mem_cons.mp h with e | e
    · exact .inr e
    · exact .inl (numL_digits _ c e)
  · exact .inl (numL_digits _ c h)
theorem lineL_mem {t : Int × List St2} {c : Nat} (h : c ∈ lineL t) : (48 ≤ c ∧ c ≤ 58) ∨ c = 45 ∨ c = 46 ∨ c = 32 := by
  unfold lineL at h
  rcases joinL_mem h with h | ⟨p, hp, h⟩
  · simp at h; omega
  · rcases List.mem_cons.mp hp with e | hp
    · subst e
      rcases List.mem_append.mp h with h | h
      · have := numZ_mem h; omega
      · simp at h; omega
    · obtain ⟨s, _, rfl⟩ := List.mem_map.mp hp
      have := stW_mem h
      omega
theorem lineL_asc (t : Int × List St2) : Asc (lineL t) := fun c h => by
  have := lineL_mem h
  omega
theorem showL_asc (p : Pic) : Asc (showL p) := by
  unfold showL
  split
  · decide
  · exact joinL_asc (by decide) fun q hq => by
      obtain ⟨t, _, rfl⟩ := List.mem_map.mp hq
      exact lineL_asc t
theorem stW_len {s : St2} (h : Bd s.1 ∧ Bd s.2) : (stW s).length ≤ 204 := by
  have h1 := h.1.len
  have h2 := h.2.len
  unfold stW
  split
  · omega
  · simp; omega
theorem line_sum {y : Int} {r : List St2} (hy : Bd y) (hr : ∀ s ∈ r, Bd s.1 ∧ Bd s.2) : (((numZ y ++ [58]) :: r.map stW).map (·.length)).sum ≤ 204 * (r.length + 1) := by
  have := sum_le (k := 204) (ys := (numZ y ++ [58]) :: r.map stW) (fun l hl => by
    rcases List.mem_cons.mp hl with e | hl
    · subst e
      have := hy.len
      simp; omega
    · obtain ⟨s, hs, rfl⟩ := List.mem_map.mp hl
      exact stW_len (hr s hs))
  rw [List.length_cons, List.length_map] at this
  omega
theorem lineL_len {y : Int} {r : List St2} (hy : Bd y) (hr : ∀ s ∈ r, Bd s.1 ∧ Bd s.2) : (lineL (y, r)).length ≤ 205 * (r.length + 1) := by
  have h1 := joinL_len (S := [32]) ((numZ y ++ [58]) :: r.map stW)
  have h2 := line_sum hy hr
  rw [List.length_cons, List.length_map] at h1
  simp only [List.length_cons, List.length_nil] at h1
  show (joinL [32] ((numZ y ++ [58]) :: r.map stW)).length ≤ _
  omega
def BdP (p : Pic) : Prop := ∀ t ∈ p, Bd t.1 ∧ ∀ s ∈ t.2, Bd s.1 ∧ Bd s.2
theorem wP_cons (t : Int × List St2) (p : Pic) : wP (t :: p) = t.2.length + 1 + wP p := rfl
theorem show_sum : ∀ {p : Pic}, BdP p → ((p.map lineL).map (·.length)).sum ≤ 205 * wP p
  | [], _ => by simp [wP]
  | t :: p, h => by
    have h1 := lineL_len (h t List.mem_cons_self).1 (h t List.mem_cons_self).2
    have h2 := show_sum (p := p) fun x hx => h x (List.mem_cons_of_mem _ hx)
    rw [wP_cons, List.map_cons, List.map_cons, List.sum_cons]
    show (lineL (t.1, t.2)).length + _ ≤ _
    omega
theorem wP_len : ∀ p : Pic, p.length ≤ wP p
  | [] => Nat.le_refl _
  | t :: p => by
    have := wP_len p
    rw [wP_cons, List.length_cons]
    omega
theorem wP_row : ∀ {p : Pic} {t : Int × List St2}, t ∈ p → t.2.length + 1 ≤ wP p
  | [], _, h => by cases h
  | s :: p, t, h => by
    rw [wP_cons]
    rcases List.mem_cons.mp h with e | h
    · subst e; omega
    · have := wP_row h; omega
theorem showL_len {p : Pic} (h : BdP p) : (showL p).length ≤ 207 * wP p + 7 := by
  unfold showL
  split
  · simp [nothingL]
  · have h1 := joinL_len (S := [59, 32]) (p.map lineL)
    have h2 := show_sum h
    have h3 := wP_len p
    rw [List.length_map] at h1
    simp only [List.length_cons, List.length_nil] at h1
    omega
/-! what is parted off -/
theorem spl_sub (S : List Nat) : ∀ (l : List Nat) (k : Nat) (acc p : List Nat), p ∈ spl S k acc l → p.length ≤ acc.length + l.length ∧ ∀ c ∈ p, c ∈ acc ∨ c ∈ l
  | [], k, acc, p, h => by
    rw [spl_nil] at h
    simp at h
    subst h
    exact ⟨by simp, fun c hc => .inl hc⟩
  | c :: r, k + 1, acc, p, h => by
    have h : p ∈ spl S k acc r := h
    obtain ⟨h1, h2⟩ := spl_sub S r k acc p h
    exact ⟨by simp; omega, fun d hd => (h2 d hd).elim .inl fun z => .inr (List.mem_cons_of_mem _ z)⟩
  | c :: r, 0, acc, p, h => by
    cases hp : pre S (c :: r) with
    | true =>
      rw [spl_hit hp] at h
      rcases List.mem_cons.mp h with e | h
      · subst e
        exact ⟨by simp, fun d hd => .inl hd⟩
      · obtain ⟨h1, h2⟩ := spl_sub S r _ [] p h
        simp at h1
        exact ⟨by simp; omega, fun d hd => (h2 d hd).elim (fun z => by cases z) fun z => .inr (List.mem_cons_of_mem _ z)⟩
    | false =>
      rw [spl_miss hp] at h
      obtain ⟨h1, h2⟩ := spl_sub S r 0 (acc ++ [c]) p h
      simp at h1
      refine ⟨by simp; omega, fun d hd => ?_⟩
      rcases h2 d hd with z | z
      · rcases List.mem_append.mp z with z | z
        · exact .inl z
        · simp at z; subst z; exact .inr List.mem_cons_self
      · exact .inr (List.mem_cons_of_mem _ z)
theorem spl_count (S : List Nat) : ∀ (l : List Nat) (k : Nat) (acc : List Nat), (spl S k acc l).length ≤ l.length + 1
  | [], k, acc => by rw [spl_nil]; simp
  | c :: r, k + 1, acc => by
    show (spl S k acc r).length ≤ _
    have := spl_count S r k acc
    simp; omega
  | c :: r, 0, acc => by
    cases hp : pre S (c :: r) with
    | true =>
      rw [spl_hit hp]
      have := spl_count S r (S.length - 1) []
      simp; omega
    | false =>
      rw [spl_miss hp]
      have := spl_count S r 0 (acc ++ [c])
      simp; omega
theorem par_sub (S : List Nat) : ∀ (l acc p r : List Nat), par S acc l = some (p, r) → p.length ≤ acc.length + l.length ∧ (∀ c ∈ p, c ∈ acc ∨ c ∈ l) ∧ r.length ≤ l.length ∧ ∀ c ∈ r, c ∈ l
  | [], acc, p, r, h => by cases h
  | c :: t, acc, p, r, h => by
    cases hp : pre S (c :: t) with
    | true =>
      rw [par_hit hp] at h
      cases h
      exact ⟨by simp, fun d hd => .inl hd, by simp, fun d hd => List.mem_of_mem_drop hd⟩
    | false =>
      rw [par_miss hp] at h
      obtain ⟨h1, h2, h3, h4⟩ := par_sub S t (acc ++ [c]) p r h
      simp at h1
      refine ⟨by simp; omega, fun d hd => ?_, by simp; omega, fun d hd => List.mem_cons_of_mem _ (h4 d hd)⟩
      rcases h2 d hd with z | z
      · rcases List.mem_append.mp z with z | z
        · exact .inl z
        · simp at z; subst z; exact .inr List.mem_cons_self
      · exact .inr (List.mem_cons_of_mem _ z)
/-! words and lines -/
def WordIs (w : List Nat) (s : St2) : Prop := (par [46, 46] [] w = none ∧ NumOk w ∧ s = (valL w, valL w)) ∨ ∃ a b, par [46, 46] [] w = some (a, b) ∧ NumOk a ∧ NumOk b ∧ s = (valL a, valL b)
def WordBad (w : List Nat) : Prop := (par [46, 46] [] w = none ∧ ¬ NumOk w) ∨ ∃ a b, par [46, 46] [] w = some (a, b) ∧ (¬ NumOk a ∨ ¬ NumOk b)
theorem word_or (w : List Nat) : (∃ s, WordIs w s) ∨ WordBad w := by
  cases h : par [46, 46] [] w with
  | none =>
    by_cases g : NumOk w
    · exact .inl ⟨_, .inl ⟨h, g, rfl⟩⟩
    · exact .inr (.inl ⟨h, g⟩)
  | some q =>
    obtain ⟨a, b⟩ := q
    by_cases g : NumOk a ∧ NumOk b
    · exact .inl ⟨_, .inr ⟨a, b, h, g.1, g.2, rfl⟩⟩
    · refine .inr (.inr ⟨a, b, h, ?_⟩)
      by_cases g1 : NumOk a
      · exact .inr fun z => g ⟨g1, z⟩
      · exact .inl g1
inductive All2 {α β : Type} (R : α → β → Prop) : List α → List β → Prop
  | nil : All2 R [] []
  | cons {a : α} {b : β} {as : List α} {bs : List β} : R a b → All2 R as bs → All2 R (a :: as) (b :: bs)
theorem All2.map {α β γ : Type} {R : α → β → Prop} {f : γ → α} {g : γ → β} : ∀ {cs : List γ}, (∀ c ∈ cs, R (f c) (g c)) → All2 R (cs.map f) (cs.map g)
  | [], _ => .nil
  | c :: cs, h => .cons (h c List.mem_cons_self) (All2.map fun x hx => h x (List.mem_cons_of_mem _ hx))
theorem All2.len {α β : Type} {R : α → β → Prop} : ∀ {as : List α} {bs : List β}, All2 R as bs → as.length = bs.length
  | _, _, .nil => rfl
  | _, _, .cons _ h => congrArg (· + 1) h.len
theorem all2_or {α β : Type} {R : α → β → Prop} {B : α → Prop} (h : ∀ a, (∃ b, R a b) ∨ B a) : ∀ as : List α, (∃ bs, All2 R as bs) ∨ ∃ a ∈ as, B a
  | [] => .inl ⟨[], .nil⟩
  | a :: as => by
    rcases h a with ⟨b, h1⟩ | h1
    · rcases all2_or h as with ⟨bs, h2⟩ | ⟨x, hx, h2⟩
      · exact .inl ⟨b :: bs, .cons h1 h2⟩
      · exact .inr ⟨x, List.mem_cons_of_mem _ hx, h2⟩
    · exact .inr ⟨a, List.mem_cons_self, h1⟩
def LineIs (l : List Nat) (t : Int × List St2) : Prop := ∃ a r, par [58, 32] [] l = some (a, r) ∧ NumOk a ∧ t.1 = valL a ∧ All2 WordIs (spl [32] 0 [] r) t.2
def LineBad (l : List Nat) : Prop := par [58, 32] [] l = none ∨ ∃ a r, par [58, 32] [] l = some (a, r) ∧ (¬ NumOk a ∨ ∃ w ∈ spl [32] 0 [] r, WordBad w)
theorem line_or (l : List Nat) : (∃ t, LineIs l t) ∨ LineBad l := by
  cases h : par [58, 32] [] l with
  | none => exact .inr (.inl h)
  | some q =>
    obtain ⟨a, r⟩ := q
    by_cases g : NumOk a
    · rcases all2_or word_or (spl [32] 0 [] r) with ⟨bs, k⟩ | k
      · exact .inl ⟨(valL a, bs), a, r, h, g, rfl, k⟩
      · exact .inr (.inr ⟨a, r, h, .inr k⟩)
    · exact .inr (.inr ⟨a, r, h, .inl g⟩)
/-- the stretches that lines tell -/
def trisOf (ts : List (Int × List St2)) : List Tri := ts.flatMap fun t => t.2.map fun s => (t.1, s.1, s.2)
/-- a stretch's word reads back -/
def In60 (i : Int) : Prop := i.natAbs < 10 ^ 60
theorem In60.bd {i : Int} (h : In60 i) : Bd i := Nat.lt_trans h (by decide +kernel)
theorem word_st {s : St2} (h : In60 s.1 ∧ In60 s.2) : WordIs (stW s) s := by
  unfold stW
  by_cases e : s.1 = s.2
  · rw [if_pos e]
    refine .inl ⟨par_none1 (numZ_free (by decide) (by decide)), numOk_int h.1, ?_⟩
    rw [valL_numZ]
    exact Prod.ext rfl e.symm
  · rw [if_neg e]
    refine .inr ⟨numZ s.1, numZ s.2, ?_, numOk_int h.1, numOk_int h.2, by rw [valL_numZ, valL_numZ]⟩
    have := par_part1 (s := 46) (S := [46]) (p := numZ s.1) (rest := numZ s.2) (acc := []) (numZ_free (by decide) (by decide))
    exact this
theorem stW_ne (s : St2) : stW s ≠ [] := by
  unfold stW
  split
  · exact numZ_ne _
  · simp [numZ_ne]
theorem line_t {t : Int × List St2} (hy : In60 t.1) (hne : t.2 ≠ []) (h : ∀ s ∈ t.2, In60 s.1 ∧ In60 s.2) : LineIs (lineL t) t := by
  obtain ⟨y, r⟩ := t
  cases r with
  | nil => exact absurd rfl hne
  | cons s r =>
    have e : lineL (y, s :: r) = numZ y ++ (58 :: [32] ++ joinL [32] ((s :: r).map stW)) := by
      show (numZ y ++ [58]) ++ ([32] ++ joinL [32] ((s :: r).map stW)) = _
      simp
    refine ⟨numZ y, joinL [32] ((s :: r).map stW), ?_, numOk_int hy, (valL_numZ y).symm, ?_⟩
    · rw [e]
      have := par_part1 (s := 58) (S := [32]) (p := numZ y) (rest := joinL [32] ((s :: r).map stW)) (acc := []) (numZ_free (by decide) (by decide))
      rw [this]
      rfl
    · rw [spl_join (by simp) (fun p hp => by
        obtain ⟨x, _, rfl⟩ := List.mem_map.mp hp
        intro hm
        have := stW_mem hm
        omega)]
      have := All2.map (R := WordIs) (f := stW) (g := id) (cs := s :: r) fun x hx => word_st (h x hx)
      rw [List.map_id] at this
      exact this
theorem spl_show {ps : List (Int × List St2)} (hne : ps ≠ []) : spl [59, 32] 0 [] (joinL [59, 32] (ps.map lineL)) = ps.map lineL := by
  refine spl_join (by simpa using hne) fun p hp => ?_
  obtain ⟨t, _, rfl⟩ := List.mem_map.mp hp
  intro hm
  have := lineL_mem hm
  omega
/-! the ends of a picture put together are ends of what it is put together of -/
theorem row_apart : ∀ {r : List St2}, r.Pairwise (fun a b => a.2 + 2 ≤ b.1) → ∀ p ∈ r, ∀ s ∈ r, p = s ∨ p.2 + 2 ≤ s.1 ∨ s.2 + 2 ≤ p.1
  | [], _, p, hp, _, _ => by cases hp
  | a :: r, h, p, hp, s, hs => by
    obtain ⟨h1, h2⟩ := List.pairwise_cons.mp h
    rcases List.mem_cons.mp hp with e | hp'
    · rcases List.mem_cons.mp hs with e' | hs'
      · exact .inl (e.trans e'.symm)
      · rw [e]; exact .inr (.inl (h1 s hs'))
    · rcases List.mem_cons.mp hs with e' | hs'
      · rw [e']; exact .inr (.inr (h1 p hp'))
      · exact row_apart h2 p hp' s hs'
theorem pic_apart : ∀ {p : Pic}, p.Pairwise (fun a b => a.1 < b.1) → ∀ t ∈ p, ∀ u ∈ p, t.1 = u.1 → t = u
  | [], _, t, ht, _, _, _ => by cases ht
  | a :: r, h, t, ht, u, hu, e => by
    obtain ⟨h1, h2⟩ := List.pairwise_cons.mp h
    rcases List.mem_cons.mp ht with e1 | ht'
    · rcases List.mem_cons.mp hu with e' | hu'
      · exact e1.trans e'.symm
      · have := h1 u hu'
        rw [e1] at e
        omega
    · rcases List.mem_cons.mp hu with e' | hu'
      · have := h1 t ht'
        rw [e'] at e
        omega
      · exact pic_apart h2 t ht' u hu' e
theorem pic_edges {p : Pic} (h : IsPic p) {t : Int × List St2} (ht : t ∈ p) {s : St2} (hs : s ∈ t.2) : inP p s.1 t.1 ∧ ¬ inP p (s.1 - 1) t.1 ∧ inP p s.2 t.1 ∧ ¬ inP p (s.2 + 1) t.1 := by
  obtain ⟨hr, _⟩ := h.2 t ht
  have hle := hr.2 s hs
  have no : ∀ x, (x = s.1 - 1 ∨ x = s.2 + 1) → ¬ inP p x t.1 := fun x hx ⟨u, hu, e, q, hq, h1, h2⟩ => by
    have := pic_apart h.1 u hu t ht e
    subst this
    have hq1 := hr.2 q hq
    rcases row_apart hr.1 q hq s hs with e | e | e
    · subst e; omega
    · omega
    · omega
  exact ⟨⟨t, ht, rfl, s, hs, Int.le_refl _, hle⟩, no _ (.inl rfl), ⟨t, ht, rfl, s, hs, hle, Int.le_refl _⟩, no _ (.inr rfl)⟩
theorem picOf_ends {ts : List Tri} {t : Int × List St2} (ht : t ∈ picOf ts) : (∃ u ∈ ts, u.1 = t.1) ∧ ∀ s ∈ t.2, (∃ u ∈ ts, u.2.1 = s.1) ∧ ∃ u ∈ ts, u.2.2 = s.2 := by
  have hp := picOf_pic ts
  have key : ∀ s ∈ t.2, (∃ u ∈ ts, u.1 = t.1) ∧ (∃ u ∈ ts, u.2.1 = s.1) ∧ ∃ u ∈ ts, u.2.2 = s.2 := fun s hs => by
    obtain ⟨h1, h2, h3, h4⟩ := pic_edges hp ht hs
    rw [picOf_in] at h1 h2 h3 h4
    obtain ⟨u, hu, e1, e2, e3⟩ := h1
    obtain ⟨v, hv, f1, f2, f3⟩ := h3
    refine ⟨⟨u, hu, e1⟩, ⟨u, hu, ?_⟩, ⟨v, hv, ?_⟩⟩
    · by_cases g : u.2.1 = s.1
      · exact g
      · exact absurd ⟨u, hu, e1, by omega, by omega⟩ h2
    · by_cases g : v.2.2 = s.2
      · exact g
      · exact absurd ⟨v, hv, f1, by omega, by omega⟩ h4
  have hne := (hp.2 t ht).2
  cases hr : t.2 with
  | nil => exact absurd hr hne
  | cons s r =>
    refine ⟨(key s (by rw [hr]; exact List.mem_cons_self)).1, fun x hx => (key x (by rw [hr]; exact hx)).2⟩
def BdT (ts : List Tri) : Prop := ∀ t ∈ ts, Bd t.1 ∧ Bd t.2.1 ∧ Bd t.2.2
theorem picOf_bd {ts : List Tri} (h : BdT ts) : BdP (picOf ts) := fun t ht => by
  obtain ⟨⟨u, hu, e⟩, k⟩ := picOf_ends ht
  refine ⟨by rw [← e]; exact (h u hu).1, fun s hs => ?_⟩
  obtain ⟨⟨v, hv, f⟩, w, hw, g⟩ := k s hs
  exact ⟨by rw [← f]; exact (h v hv).2.1, by rw [← g]; exact (h w hw).2.2⟩
theorem wP_nS {p : Pic} (h : IsPic p) : wP p ≤ 2 * nS p := by
  have key : ∀ q : Pic, wP q = nS q + q.length := fun q => by
    induction q with
    | nil => rfl
    | cons t q ih =>
      rw [wP_cons, ih]
      have : nS (t :: q) = t.2.length + nS q := by
        show (strOf (t :: q)).length = _ + (strOf q).length
        unfold strOf
        rw [List.flatMap_cons, List.length_append, List.length_map]
      rw [this, List.length_cons]
      omega
  have := (len_nS h).1
  rw [key p]
  omega
/-! how great a number's text is -/
theorem dig_lt : ∀ {l : List Nat} (a : Nat), NumText.AllDigits l → l.foldl (fun acc c => acc * 10 + (c - 48)) a < (a + 1) * 10 ^ l.length
  | [], a, _ => by simp
  | c :: l, a, h => by
    have h1 := h c List.mem_cons_self
    have ih := dig_lt (l := l) (a * 10 + (c - 48)) fun x hx => h x (List.mem_cons_of_mem _ hx)
    rw [List.foldl_cons, List.length_cons, Nat.pow_succ]
    have : (a * 10 + (c - 48) + 1) * 10 ^ l.length ≤ ((a + 1) * 10) * 10 ^ l.length := Nat.mul_le_mul_right _ (by omega)
    have e : (a + 1) * (10 ^ l.length * 10) = (a + 1) * 10 * 10 ^ l.length := by rw [Nat.mul_assoc, Nat.mul_comm 10]
    omega
theorem valL_60 {l : List Nat} (h : NumOk l) : In60 (valL l) := by
  have key : ∀ r : List Nat, NumText.AllDigits r → r.length ≤ 60 → NumText.digitsVal r < 10 ^ 60 := fun r h1 h2 => by
    have := dig_lt 0 h1
    rw [Nat.zero_add, Nat.one_mul] at this
    exact Nat.lt_of_lt_of_le this (Nat.pow_le_pow_right (by decide) h2)
  have d := h.dg
  have n := h.len
  unfold In60
  unfold figs at d n
  unfold valL
  split
  · rename_i r
    have := key r d n
    omega
  · rename_i hn
    split at d
    · exact absurd rfl (hn _)
    · split at n
      · exact absurd rfl (hn _)
      · have := key _ d n
        omega
theorem word_60 {w : List Nat} {s : St2} (h : WordIs w s) : In60 s.1 ∧ In60 s.2 := by
  rcases h with ⟨_, h, rfl⟩ | ⟨a, b, _, h1, h2, rfl⟩
  · exact ⟨valL_60 h, valL_60 h⟩
  · exact ⟨valL_60 h1, valL_60 h2⟩
theorem All2.mem {α β : Type} {R : α → β → Prop} : ∀ {as : List α} {bs : List β}, All2 R as bs → ∀ b ∈ bs, ∃ a ∈ as, R a b
  | _, _, .nil, b, hb => by cases hb
  | _, _, .cons h r, b, hb => by
    rcases List.mem_cons.mp hb with e | hb
    · subst e; exact ⟨_, List.mem_cons_self, h⟩
    · obtain ⟨a, ha, k⟩ := r.mem b hb
      exact ⟨a, List.mem_cons_of_mem _ ha, k⟩
theorem line_60 {l : List Nat} {t : Int × List St2} (h : LineIs l t) : In60 t.1 ∧ ∀ s ∈ t.2, In60 s.1 ∧ In60 s.2 := by
  obtain ⟨a, r, _, h2, h3, h4⟩ := h
  refine ⟨by rw [h3]; exact valL_60 h2, fun s hs => ?_⟩
  obtain ⟨w, _, k⟩ := h4.mem s hs
  exact word_60 k
theorem line_count {l : List Nat} {t : Int × List St2} (h : LineIs l t) : t.2.length ≤ l.length + 1 := by
  obtain ⟨a, r, h1, h2, h3, h4⟩ := h
  have := h4.len
  have c := spl_count [32] r 0 []
  obtain ⟨_, _, z, _⟩ := par_sub _ l [] a r h1
  omega
theorem tris_bd {ls : List (List Nat)} {ts : List (Int × List St2)} (h : All2 LineIs ls ts) : BdT (trisOf ts) := fun u hu => by
  unfold trisOf at hu
  obtain ⟨t, ht, hu⟩ := List.mem_flatMap.mp hu
  obtain ⟨s, hs, rfl⟩ := List.mem_map.mp hu
  obtain ⟨l, _, k⟩ := h.mem t ht
  obtain ⟨h1, h2⟩ := line_60 k
  exact ⟨h1.bd, (h2 s hs).1.bd, (h2 s hs).2.bd⟩
theorem spl_sum (S : List Nat) : ∀ (l : List Nat) (k : Nat) (acc : List Nat), ((spl S k acc l).map fun p => p.length + 1).sum ≤ acc.length + l.length + 1
  | [], k, acc => by rw [spl_nil]; simp
  | c :: r, k + 1, acc => by
    show ((spl S k acc r).map fun p => p.length + 1).sum ≤ _
    have := spl_sum S r k acc
    simp; omega
  | c :: r, 0, acc => by
    cases hp : pre S (c :: r) with
    | true =>
      rw [spl_hit hp]
      have := spl_sum S r (S.length - 1) []
      simp at this
      simp; omega
    | false =>
      rw [spl_miss hp]
      have := spl_sum S r 0 (acc ++ [c])
      simp at this
      simp; omega
theorem tris_count : ∀ {ls : List (List Nat)} {ts : List (Int × List St2)}, All2 LineIs ls ts → (trisOf ts).length ≤ (ls.map fun p => p.length + 1).sum
  | _, _, .nil => Nat.le_refl _
  | l :: ls, t :: ts, .cons h r => by
    have h1 := line_count h
    have h2 := tris_count r
    have e : trisOf (t :: ts) = (t.2.map fun s => (t.1, s.1, s.2)) ++ trisOf ts := rfl
    rw [e, List.length_append, List.length_map, List.map_cons, List.sum_cons]
    omega
end P
namespace P
open PySem L2 FL
def cellAt (ns : List Int) (k : Nat) : Int := ns.getD k 0
theorem cell_at_e (ns : List Int) (k : Nat) : g__law_cell_at [.scr ns, .int (k : Int)] = .ok (.int (cellAt ns k)) := by
  unfold g__law_cell_at
  rw [fnG_e]
  simp [atI_nat', cellAt]
  by_cases h : k < ns.length
  · simp [h]
  · simp [h]
theorem stretches_of_e {p : Pic} (hl : (strOf p).length ≤ sizeLine) : g_stretches_of [ePic p] = .ok (.lst ((strOf p).map eTr)) := by
  unfold g_stretches_of
  rw [fnG_e]
  simp
  obtain ⟨ρ', h1, hn, c2, c3, c4, c5, e⟩ := forO_ix (b := bTup 2 (bCons (bName 2) (bCons (bName 3) bNil))) (body := w_stretches_of_2) eT (fun n (acc : List Tri) ρ => acc = strOf (p.take n) ∧ ∃ c2 c3 c4 c5, ρ = [some (ePic p), some (.lst (acc.map eTr)), c2, c3, c4, c5])
    (fun acc t => acc ++ t.2.map fun s => (t.1, s.1, s.2)) p 0 [] [some (ePic p), some (.lst []), none, none, none, none] (fun i hi acc ρ ⟨ha, c2, c3, c4, c5, e⟩ => by
      subst e
      have htk : p.take (i + 1) = p.take i ++ [p[i]] := by rw [List.take_succ_eq_append_getElem hi]
      have hs : strOf (p.take (i + 1)) = strOf (p.take i) ++ p[i].2.map fun s => (p[i].1, s.1, s.2) := by
        rw [htk]
        unfold strOf
        rw [List.flatMap_append, List.flatMap_cons, List.flatMap_nil, List.append_nil]
      have hz : 0 + i = i := Nat.zero_add i
      rw [hz] at ha ⊢
      have hle : (strOf (p.take (i + 1))).length ≤ sizeLine := by
        refine Nat.le_trans ?_ hl
        have : strOf p = strOf (p.take (i + 1)) ++ strOf (p.drop (i + 1)) := by
          unfold strOf
          rw [← List.flatMap_append, List.take_append_drop]
        rw [this, List.length_append]
        omega
      generalize p[i] = t at hs ⊢
      obtain ⟨ρ2, k1, hk, c4', c5', k2⟩ := forO_ix (b := bTup 2 (bCons (bName 4) (bCons (bName 5) bNil))) (body := w_stretches_of_1) eP (fun n (a : List Tri) ρ => a.length = acc.length + n ∧ ∃ c4 c5, ρ = [some (ePic p), some (.lst (a.map eTr)), some (.int t.1), some (eR t.2), c4, c5])
        (fun a s => a ++ [(t.1, s.1, s.2)]) t.2 0 acc [some (ePic p), some (.lst (acc.map eTr)), some (.int t.1), some (eR t.2), c4, c5] (fun j hj a ρ ⟨hal, c4, c5, e⟩ => by
          subst e
          generalize t.2[j] = s
          have hlt : a.length < sizeLine := by
            rw [hs, List.length_append, List.length_map, ← ha] at hle
            omega
          refine ⟨_, _, by simp; rfl, .inl (by simp [w_stretches_of_1, hlt]; rfl), by simp; omega, some (.int s.1), some (.int s.2), by simp [eTr]⟩) ⟨by omega, c4, c5, rfl⟩
      rw [foldl_app] at k2
      have hm : (t.2.flatMap fun s => [(t.1, s.1, s.2)]) = t.2.map fun s => (t.1, s.1, s.2) := List.map_eq_flatMap.symm
      rw [hm] at k2
      exact ⟨_, _, by simp; rfl, .inl (by unfold w_stretches_of_2; simp; rw [k1]), by rw [hs, ha], _, _, _, _, k2⟩) ⟨by simp [strOf], none, none, none, none, rfl⟩
  rw [h1]
  have hz : 0 + p.length = p.length := Nat.zero_add _
  rw [hz, List.take_length] at hn
  subst e
  rw [hn]
  simp
theorem signed_e (c m : Int) (hm : 0 < m) : ∃ v, g__law_signed [.int c, .int m] = .ok (.int v) := by
  unfold g__law_signed
  rw [fnG_e]
  by_cases h : c < 0
  · exact ⟨_, by simp [h, hm]; rfl⟩
  · exact ⟨_, by simp [h, hm]; rfl⟩
theorem sizes_e (i : Nat) (hi : i < 8) : ∃ v : Int, 1 ≤ v ∧ ixD (.lst [.int 1, .int 2, .int 1, .int 10000000000000000000000000000000000000000, .int 1, .int 1, .int 3, .int 2]) (.int (i : Nat)) = .ok (.int v) := by
  have : i = 0 ∨ i = 1 ∨ i = 2 ∨ i = 3 ∨ i = 4 ∨ i = 5 ∨ i = 6 ∨ i = 7 := by omega
  rcases this with rfl | rfl | rfl | rfl | rfl | rfl | rfl | rfl <;> exact ⟨_, by decide, rfl⟩
theorem size_e (i : Nat) (hi : i < 8) (wide : Bool) (b x c3 : D) (c5 : Option D) : ∃ v : Int, 1 ≤ v ∧ (wide = false → v = 1) ∧ ∀ h : Ev0 → Out, (oSeq (oSet 5 (gC (.int 1))) (oSeq (oIf (gT (gVar 2)) (oSet 5 (g2 (gLst (gCons (gC (.int 1)) (gCons (gC (.int 2)) (gCons (gC (.int 1)) (gCons (g2 (gC (.int 10)) (gC (.int 40)) powD) (gCons (gC (.int 1)) (gCons (gC (.int 1)) (gCons (gC (.int 3)) (gCons (gC (.int 2)) gNil))))))))) (gVar 4) ixD)) oNil) h)) [some b, some x, some (.bl wide), some c3, some (.int (i : Nat)), c5] = h [some b, some x, some (.bl wide), some c3, some (.int (i : Nat)), some (.int v)] := by
  cases wide with
  | false => exact ⟨1, by decide, fun _ => rfl, fun h => by simp⟩
  | true =>
    obtain ⟨v, h1, h2⟩ := sizes_e i hi
    refine ⟨v, h1, (fun e => by cases e), fun h => ?_⟩
    simp at h2
    simp [h2]
theorem lrow_step (i : Nat) (hi : i < 8) (wide : Bool) (b x : Int) (s : List St2) (c5 : Option D) (hs : IsStk s) (hx : ∀ a ∈ s, a.2 ≤ x - 1) (hl : s.length ≤ i) : ∃ s' b' x' c5', w__law_row_1 [some (.int b), some (.int x), some (.bl wide), some (.lst (s.reverse.map eP)), some (.int (i : Nat)), c5] = .nx [some (.int b'), some (.int x'), some (.bl wide), some (.lst (s'.reverse.map eP)), some (.int (i : Nat)), c5'] ∧
    IsStk s' ∧ (∀ a ∈ s', a.2 ≤ x' - 1) ∧ s'.length ≤ i + 1 ∧ x < x' ∧ (wide = false → x' = x + 1) ∧ (∀ a ∈ s', (∃ a' ∈ s, a.1 = a'.1) ∨ a.1 = x) := by
  have hz := sizeL
  obtain ⟨v, hv, hv1, hw⟩ := size_e i hi wide (.int b) (.int x) (.lst (s.reverse.map eP)) c5
  unfold w__law_row_1
  rw [hw]
  cases s with
  | nil =>
    have fA : IsStk [(x, x + v - 1)] ∧ (∀ a ∈ [(x, x + v - 1)], a.2 ≤ x + v - 1) ∧ [(x, x + v - 1)].length ≤ i + 1 ∧ x < x + v ∧ (wide = false → x + v = x + 1) ∧ (∀ a ∈ [(x, x + v - 1)], (∃ a' ∈ ([] : List St2), a.1 = a'.1) ∨ a.1 = x) :=
      ⟨stk_one (by dsimp only; omega), fun a ha => by rw [List.mem_singleton.mp ha]; exact Int.le_refl _, by simp, by omega, fun e => by have := hv1 e; omega, fun a ha => by rw [List.mem_singleton.mp ha]; exact .inr rfl⟩
    have fB : IsStk [] ∧ (∀ a ∈ ([] : List St2), a.2 ≤ x + v - 1) ∧ ([] : List St2).length ≤ i + 1 ∧ x < x + v ∧ (wide = false → x + v = x + 1) ∧ (∀ a ∈ ([] : List St2), (∃ a' ∈ ([] : List St2), a.1 = a'.1) ∨ a.1 = x) :=
      ⟨hs, (fun a h => by cases h), by simp, by omega, fun e => by have := hv1 e; omega, fun a h => by cases h⟩
    by_cases hb : b % 2 = 1 <;> by_cases hb2 : b / 512 % 4 = 1 <;> first
      | (refine ⟨[(x, x + v - 1)], b / 2, x + v, some (.int v), ?_, fA⟩; simp [hb, hb2, hz, eP]; done)
      | (refine ⟨[], b / 2, x + v, some (.int v), ?_, fB⟩; simp [hb, hb2]; done)
  | cons l t =>
    have h1 := hx l List.mem_cons_self
    have h2 := hs.2 l List.mem_cons_self
    have h3 := List.pairwise_cons.mp hs.1
    have l1 : t.length < sizeLine := by rw [List.length_cons] at hl; omega
    have l2 : t.length + 1 < sizeLine := by rw [List.length_cons] at hl; omega
    have l3 : (0 : Int) < ((t.length : Nat) : Int) + 1 := by omega
    have fB : IsStk (l :: t) ∧ (∀ a ∈ l :: t, a.2 ≤ x + v - 1) ∧ (l :: t).length ≤ i + 1 ∧ x < x + v ∧ (wide = false → x + v = x + 1) ∧ (∀ a ∈ l :: t, (∃ a' ∈ l :: t, a.1 = a'.1) ∨ a.1 = x) :=
      ⟨hs, fun a ha => by have := hx a ha; omega, by omega, by omega, fun e => by have := hv1 e; omega, fun a ha => .inl ⟨a, ha, rfl⟩⟩
    by_cases e : l.2 = x - 1
    · have fA : IsStk ((l.1, x + v - 1) :: t) ∧ (∀ a ∈ (l.1, x + v - 1) :: t, a.2 ≤ x + v - 1) ∧ ((l.1, x + v - 1) :: t).length ≤ i + 1 ∧ x < x + v ∧ (wide = false → x + v = x + 1) ∧ (∀ a ∈ (l.1, x + v - 1) :: t, (∃ a' ∈ l :: t, a.1 = a'.1) ∨ a.1 = x) := by
        refine ⟨⟨List.pairwise_cons.mpr ⟨h3.1, h3.2⟩, fun a ha => ?_⟩, fun a ha => ?_, by simpa using Nat.le_succ_of_le hl, by omega, fun e => by have := hv1 e; omega, fun a ha => ?_⟩
        · rcases List.mem_cons.mp ha with rfl | ha
          · dsimp only; omega
          · exact hs.2 a (List.mem_cons_of_mem _ ha)
        · rcases List.mem_cons.mp ha with rfl | ha
          · dsimp only; omega
          · have := hx a (List.mem_cons_of_mem _ ha); omega
        · rcases List.mem_cons.mp ha with rfl | ha
          · exact .inl ⟨l, List.mem_cons_self, rfl⟩
          · exact .inl ⟨a, List.mem_cons_of_mem _ ha, rfl⟩
      by_cases hb : b % 2 = 1 <;> by_cases hb2 : b / 512 % 4 = 1 <;> first
        | (refine ⟨(l.1, x + v - 1) :: t, b / 2, x + v, some (.int v), ?_, fA⟩; simp [hb, hb2, eP, e, l1, l2, l3]; done)
        | (refine ⟨l :: t, b / 2, x + v, some (.int v), ?_, fB⟩; simp [hb, hb2]; done)
    · have fA : IsStk ((x, x + v - 1) :: l :: t) ∧ (∀ a ∈ (x, x + v - 1) :: l :: t, a.2 ≤ x + v - 1) ∧ ((x, x + v - 1) :: l :: t).length ≤ i + 1 ∧ x < x + v ∧ (wide = false → x + v = x + 1) ∧ (∀ a ∈ (x, x + v - 1) :: l :: t, (∃ a' ∈ l :: t, a.1 = a'.1) ∨ a.1 = x) := by
        refine ⟨⟨List.pairwise_cons.mpr ⟨fun a ha => ?_, hs.1⟩, fun a ha => ?_⟩, fun a ha => ?_, by simpa using hl, by omega, fun e => by have := hv1 e; omega, fun a ha => ?_⟩
        · rcases List.mem_cons.mp ha with rfl | ha
          · dsimp only; omega
          · have := h3.1 a ha; dsimp only; omega
        · rcases List.mem_cons.mp ha with rfl | ha
          · dsimp only; omega
          · exact hs.2 a ha
        · rcases List.mem_cons.mp ha with rfl | ha
          · dsimp only; omega
          · have := hx a ha; omega
        · rcases List.mem_cons.mp ha with rfl | ha
          · exact .inr rfl
          · exact .inl ⟨a, ha, rfl⟩
      by_cases hb : b % 2 = 1 <;> by_cases hb2 : b / 512 % 4 = 1 <;> first
        | (refine ⟨(x, x + v - 1) :: l :: t, b / 2, x + v, some (.int v), ?_, fA⟩; simp [hb, hb2, eP, e, l1, l2, l3]; done)
        | (refine ⟨l :: t, b / 2, x + v, some (.int v), ?_, fB⟩; simp [hb, hb2]; done)
theorem lrow_e (b x : Int) (wide : Bool) : ∃ r, g__law_row [.int b, .int x, .bl wide] = .ok (eR r) ∧ IsRow r ∧ r.length ≤ 8 ∧ ∀ a ∈ r, x ≤ a.1 ∧ (wide = false → a.2 < x + 8) := by
  unfold g__law_row
  rw [fnG_e]
  have hrg : rgOk 8 = true := by decide
  simp [hrg, rngD_0]
  obtain ⟨ρ', h1, s, b', x', c4, c5, hs, hx, hl, h0, hw, e⟩ := forO_ix (b := bName 4) (body := w__law_row_1) (fun i : Nat => D.int (i : Nat)) (fun n (_ : Unit) ρ => ∃ s b' x' c4 c5, IsStk s ∧ (∀ a ∈ s, a.2 ≤ x' - 1) ∧ s.length ≤ n ∧ (x ≤ x' ∧ ∀ a ∈ s, x ≤ a.1) ∧ (wide = false → x' = x + (n : Nat)) ∧ ρ = [some (.int b'), some (.int x'), some (.bl wide), some (.lst (s.reverse.map eP)), c4, c5])
    (fun _ _ => ()) (List.range 8) 0 () [some (.int b), some (.int x), some (.bl wide), some (.lst []), none, none] (fun i hi _ ρ ⟨s, b', x', c4, c5, hs, hx, hl, h0, hw, e⟩ => by
      subst e
      rw [List.length_range] at hi
      rw [Nat.zero_add] at hl hw ⊢
      have hg : (List.range 8)[i]'(by rw [List.length_range]; exact hi) = i := List.getElem_range _
      rw [hg]
      obtain ⟨s2, b2, x2, c52, k1, k2, k3, k4, k5, k6, k7⟩ := lrow_step i hi wide b' x' s c5 hs hx hl
      exact ⟨_, _, rfl, .inl k1, s2, b2, x2, some (.int (i : Nat)), c52, k2, k3, k4, ⟨by omega, fun a ha => by
        rcases k7 a ha with ⟨a', ha', e⟩ | e
        · rw [e]; exact h0.2 a' ha'
        · rw [e]; exact h0.1⟩, fun e => by rw [k6 e, hw e]; omega, rfl⟩) ⟨[], b, x, none, none, ⟨.nil, fun _ h => by cases h⟩, (fun _ h => by cases h), by simp, ⟨Int.le_refl _, fun _ h => by cases h⟩, fun _ => by simp, rfl⟩
  rw [h1]
  subst e
  rw [Nat.zero_add, List.length_range] at hl hw
  refine ⟨s.reverse, by simp [eR], hs.row, by rw [List.length_reverse]; exact hl, fun a1 a2 ha => ?_⟩
  have ha := List.mem_reverse.mp ha
  exact ⟨h0.2 _ ha, fun e => by have := hx _ ha; have := hw e; dsimp only at *; omega⟩
theorem two_ix (a b k : Int) (h0 : 0 ≤ k) (h1 : k < 2) (ha : 0 < a) (hb : 0 < b) : ∃ v, 0 < v ∧ ixD (.lst [.int a, .int b]) (.int k) = .ok (.int v) := by
  have : k = 0 ∨ k = 1 := by omega
  rcases this with rfl | rfl
  · exact ⟨a, ha, rfl⟩
  · exact ⟨b, hb, rfl⟩
theorem rng3_mem {i j c : Int} (hc : 0 < c) {d : D} (h : d ∈ rng3 i j c) : ∃ v, d = .int v ∧ i ≤ v ∧ v < j := by
  unfold rng3 at h
  obtain ⟨k, hk, rfl⟩ := List.mem_map.mp h
  have hk := List.mem_range.mp hk
  refine ⟨_, rfl, ?_, ?_⟩
  · have := Int.mul_nonneg (show 0 ≤ ((k : Nat) : Int) by omega) (Int.le_of_lt hc)
    omega
  · unfold Builtin.Range.rangeSize at hk
    rw [if_pos hc] at hk
    split at hk
    · rename_i hij
      have h1 : ((k : Nat) : Int) ≤ (j - i - 1) / c := by omega
      have h2 := Int.mul_le_mul_of_nonneg_right h1 (Int.le_of_lt hc)
      have h3 := Int.ediv_mul_le (j - i - 1) (show c ≠ 0 by omega)
      omega
    · simp at hk
theorem lpic_e (ns : List Int) (h : ns.length ≤ 63) : ∃ p, g__law_picture [.scr ns] = .ok (ePic p) ∧ IsPic p ∧ p.length ≤ 20 ∧ (∀ t ∈ p, t.2.length ≤ 8) ∧ ∃ x0 y0 : Int, ∀ x y, inP p x y → x0 ≤ x ∧ y0 ≤ y ∧ y < y0 + 20 ∧ (cellAt ns 0 % 3 ≠ 1 → x < x0 + 8) := by
  have hz := sizeL
  have c0 : g__law_cell_at [.scr ns, .int 0] = .ok (.int (cellAt ns 0)) := cell_at_e ns 0
  obtain ⟨u1, hu1, e1⟩ := two_ix 9 (10 ^ 58) (cellAt ns 0 / 3 % 2) (by omega) (by omega) (by decide) (by decide)
  obtain ⟨u2, hu2, e2⟩ := two_ix 9 (10 ^ 58) (cellAt ns 0 / 6 % 2) (by omega) (by omega) (by decide) (by decide)
  obtain ⟨x0, e3⟩ := signed_e (cellAt ns 0 / 12) u1 hu1
  obtain ⟨y0, e4⟩ := signed_e (cellAt ns 0 / 24) u2 hu2
  simp at e1 e2
  unfold g__law_picture
  rw [fnG_e]
  simp [c0, e1, e2, e3, e4]
  have hrg : rgOk (min 20 ((ns.length : Int) - 1)) = true := rgOk_iff.mpr ⟨by omega, by omega⟩
  simp [hrg, rngD_0]
  generalize hn : (min 20 ((ns.length : Int) - 1)).toNat = n
  generalize cellAt ns 0 = first
  have hn2 : n ≤ 20 ∧ n ≤ ns.length - 1 := by omega
  have key : ∃ ρ', forO (bName 5) w__law_picture_2 ((List.range n).map fun i : Nat => D.int (i : Nat)) [some (.scr ns), some (.int first), some (.int x0), some (.int y0), some (.lst []), none, none, none, none] = .nx ρ' ∧
      ∃ (p : Pic) (c5 c6 c7 c8 : Option D), p.length ≤ 0 + (List.range n).length ∧ (∀ t ∈ p, t.1 < y0 + ((0 + (List.range n).length : Nat) : Int) ∧ y0 ≤ t.1 ∧ t.2.length ≤ 8 ∧ ∀ a ∈ t.2, x0 ≤ a.1 ∧ (first % 3 ≠ 1 → a.2 < x0 + 8)) ∧ IsPic p ∧ ρ' = [some (.scr ns), some (.int first), some (.int x0), some (.int y0), some (.lst (p.map eT)), c5, c6, c7, c8] := by
    refine forO_ix (b := bName 5) (body := w__law_picture_2) (fun i : Nat => D.int (i : Nat)) (fun m (_ : Unit) ρ => ∃ (p : Pic) (c5 c6 c7 c8 : Option D), p.length ≤ m ∧ (∀ t ∈ p, t.1 < y0 + (m : Nat) ∧ y0 ≤ t.1 ∧ t.2.length ≤ 8 ∧ ∀ a ∈ t.2, x0 ≤ a.1 ∧ (first % 3 ≠ 1 → a.2 < x0 + 8)) ∧ IsPic p ∧ ρ = [some (.scr ns), some (.int first), some (.int x0), some (.int y0), some (.lst (p.map eT)), c5, c6, c7, c8])
      (fun _ _ => ()) (List.range n) 0 () _ (fun i hi _ ρ ⟨p, c5, c6, c7, c8, hl, ht, hp, e⟩ => ?_) ⟨[], none, none, none, none, by simp, (fun t h => by cases h), IsPic.nil, rfl⟩
    subst e
    rw [List.length_range] at hi
    rw [Nat.zero_add] at hl ht ⊢
    have hg : (List.range n)[i]'(by rw [List.length_range]; exact hi) = i := List.getElem_range _
    rw [hg]
    have ha : atI ns (1 + (i : Int)) = some (ns[1 + i]'(by omega)) := by
      rw [show (1 + (i : Int)) = ((1 + i : Nat) : Int) by omega, atI_nat', List.getElem?_eq_getElem]
    have hr3 : rg3Ok (21 + (i : Int)) (min (ns.length : Int) 99) 20 = true := by
      unfold rg3Ok
      have hs : Builtin.Range.small (21 + (i : Int)) (min (ns.length : Int) 99) 20 = true := by
        unfold Builtin.Range.small Builtin.Range.rangeSize
        simp only [Builtin.Range.rangeFitsLong, Bool.and_eq_true, Bool.or_eq_true, decide_eq_true_eq, beq_iff_eq, show (20 : Int) > 0 by decide, if_true]
        split <;> omega
      rw [hs]; rfl
    generalize ns[1 + i]'(by omega) = cc at ha
    generalize hb0 : cc * 48271 % 2147483647 / 37 = b0
    have inner : ∃ b' c7', forO (bName 7) w__law_picture_1 (rng3 (21 + (i : Int)) (min (ns.length : Int) 99) 20) [some (.scr ns), some (.int first), some (.int x0), some (.int y0), some (.lst (p.map eT)), some (.int (i : Nat)), some (.int b0), c7, c8] = .nx [some (.scr ns), some (.int first), some (.int x0), some (.int y0), some (.lst (p.map eT)), some (.int (i : Nat)), some (.int b'), c7', c8] := by
      obtain ⟨ρ', k1, b', c7', e⟩ := forO_pass (b := bName 7) (body := w__law_picture_1) (fun d : D => d) (fun ρ => ∃ b' c7', ρ = [some (.scr ns), some (.int first), some (.int x0), some (.int y0), some (.lst (p.map eT)), some (.int (i : Nat)), some (.int b'), c7', c8]) (rng3 (21 + (i : Int)) (min (ns.length : Int) 99) 20) [some (.scr ns), some (.int first), some (.int x0), some (.int y0), some (.lst (p.map eT)), some (.int (i : Nat)), some (.int b0), c7, c8] (fun d hd ρ ⟨b', c7', e⟩ => by
        subst e
        obtain ⟨v, rfl, v1, v2⟩ := rng3_mem (by decide) hd
        obtain ⟨vn, rfl⟩ : ∃ vn : Nat, v = (vn : Int) := ⟨v.toNat, by omega⟩
        have hv : atI ns (vn : Int) = some (ns[vn]'(by omega)) := by rw [atI_nat', List.getElem?_eq_getElem]
        generalize ns[vn]'(by omega) = z at hv
        have hm : mulOk 5 z = true := mulOk_l ⟨by decide, by decide⟩
        exact ⟨_, _, rfl, .inl (by simp [w__law_picture_1, hv, hm]; rfl), _, _, by rfl⟩) ⟨b0, c7, rfl⟩
      rw [List.map_id'] at k1
      exact ⟨b', c7', by rw [k1, e]⟩
    obtain ⟨b', c7', k⟩ := inner
    obtain ⟨r, r1, r2, r3, r4⟩ := lrow_e b' x0 (decide (first % 3 = 1))
    have hm : mulOk cc 48271 = true := mulOk_r ⟨by decide, by decide⟩
    have hlt : p.length < sizeLine := by omega
    by_cases hrl : 0 < r.length
    · refine ⟨_, [some (.scr ns), some (.int first), some (.int x0), some (.int y0), some (.lst ((p ++ [(y0 + (i : Int), r)]).map eT)), some (.int (i : Nat)), some (.int b'), c7', some (eR r)], rfl, .inl ?_, p ++ [(y0 + (i : Int), r)], _, _, _, _, by rw [List.length_append]; simp; omega, fun t h => ?_, ⟨?_, fun t h => ?_⟩, rfl⟩
      · simp [w__law_picture_2, ha, hm, hb0, hr3, k, r1, hrl, hlt, eT]
      · rcases List.mem_append.mp h with h | h
        · obtain ⟨q1, q2, q3, q4⟩ := ht t h
          exact ⟨by omega, q2, q3, q4⟩
        · rw [List.mem_singleton.mp h]
          exact ⟨by dsimp only; omega, by dsimp only; omega, r3, fun a ha => ⟨(r4 a ha).1, fun e => (r4 a ha).2 (by simpa using e)⟩⟩
      · rw [List.pairwise_append]
        refine ⟨hp.1, List.pairwise_singleton _ _, fun a ha' b hb => ?_⟩
        rw [List.mem_singleton.mp hb]
        exact (ht a ha').1
      · rcases List.mem_append.mp h with h | h
        · exact hp.2 t h
        · rw [List.mem_singleton.mp h]
          exact ⟨r2, fun z => by rw [show r = [] from z] at hrl; simp at hrl⟩
    · refine ⟨_, [some (.scr ns), some (.int first), some (.int x0), some (.int y0), some (.lst (p.map eT)), some (.int (i : Nat)), some (.int b'), c7', some (eR r)], rfl, .inl ?_, p, _, _, _, _, by omega, fun t h => ?_, hp, rfl⟩
      · have hrl0 : r.length = 0 := by omega
        simp [w__law_picture_2, ha, hm, hb0, hr3, k, r1, hrl0]
      · obtain ⟨q1, q2, q3, q4⟩ := ht t h
        exact ⟨by omega, q2, q3, q4⟩
  obtain ⟨ρ', k1, p, c5, c6, c7, c8, hl, ht, hp, e⟩ := key
  rw [k1]
  subst e
  rw [Nat.zero_add, List.length_range] at hl ht
  refine ⟨p, by simp [ePic], hp, by omega, fun a b h => (ht (a, b) h).2.2.1, x0, y0, ?_⟩
  rintro x y ⟨t, h, rfl, a, ha, g1, g2⟩
  obtain ⟨q1, q2, q3, q4⟩ := ht t h
  have := q4 a ha
  exact ⟨by omega, by omega, by omega, fun e => by have := this.2 e; omega⟩
theorem stretches_touch_e {X : D} {a b : Tri} {s : Int} (h0 : ixD X (.int 0) = .ok (.int a.1)) (h1 : ixD X (.int 1) = .ok (.int a.2.1)) (h2 : ixD X (.int 2) = .ok (.int a.2.2)) : g_stretches_touch [X, eTr b, .int s] = .ok (.bl (touchT s a b)) := by
  unfold g_stretches_touch
  rw [fnG_e]
  unfold touchT
  by_cases h : (a.1 - b.1).natAbs = 1
  · have h' : ((a.1 - b.1).natAbs : Int) = 1 := by omega
    by_cases k : a.2.1 ≤ b.2.2 + s <;> simp [h0, h1, h2, h, h', k]
  · have h' : ¬ ((a.1 - b.1).natAbs : Int) = 1 := by omega
    simp [h0, h, h']
theorem grow_in {F : D} {s : Int} {p : Nat} {m : List (Mem Tri)} {l : List Tri} {x : Mem Tri} (hx : m[p]? = some x) (hl : m.length + l.length ≤ 1000000) (c5 c6 : Option D) : ∃ c6', forO (bName 6) w_grow_class_1 (l.map eTr) [some F, some (.lst (l.map eTr)), some (.int s), some (.lst (m.map eMb)), some (.int (p : Nat)), some (.lst []), c6] =
    .nx [some F, some (.lst (l.map eTr)), some (.int s), some (.lst ((m ++ (l.filter fun o => touchT s x.1 o).map fun o => (o, some p)).map eMb)), some (.int (p : Nat)), some (.lst ((l.filter fun o => !touchT s x.1 o).map eTr)), c6'] := by
  have hz := sizeL
  have hp : p < m.length := (List.getElem?_eq_some_iff.mp hx).1
  obtain ⟨ρ', h1, ha, c6', e⟩ := forO_ix (b := bName 6) (body := w_grow_class_1) eTr (fun n (acc : List (Mem Tri) × List Tri) ρ => acc = (m ++ ((l.take n).filter fun o => touchT s x.1 o).map fun o => (o, some p), (l.take n).filter fun o => !touchT s x.1 o) ∧ ∃ c6', ρ = [some F, some (.lst (l.map eTr)), some (.int s), some (.lst (acc.1.map eMb)), some (.int (p : Nat)), some (.lst (acc.2.map eTr)), c6'])
    (fun acc o => if touchT s x.1 o = true then (acc.1 ++ [(o, some p)], acc.2) else (acc.1, acc.2 ++ [o])) l 0 (m, []) [some F, some (.lst (l.map eTr)), some (.int s), some (.lst (m.map eMb)), some (.int (p : Nat)), some (.lst []), c6] (fun i hi acc ρ ⟨ha, c6', e⟩ => by
      subst e
      rw [Nat.zero_add] at ha ⊢
      have htk : l.take (i + 1) = l.take i ++ [l[i]] := List.take_succ_eq_append_getElem hi
      have b1 : acc.1.length ≤ m.length + i := by
        rw [ha]
        dsimp only
        rw [List.length_append, List.length_map]
        have := List.length_filter_le (fun o => touchT s x.1 o) (l.take i)
        rw [List.length_take] at this
        omega
      have b2 : acc.2.length ≤ i := by
        rw [ha]
        dsimp only
        have := List.length_filter_le (fun o => !touchT s x.1 o) (l.take i)
        rw [List.length_take] at this
        omega
      have hx2 : acc.1[p]? = some x := by rw [ha]; dsimp only; rw [List.getElem?_append_left hp]; exact hx
      rw [htk, List.filter_append, List.filter_append]
      generalize l[i] = o at *
      have ht := stretches_touch_e (X := eMb x) (a := x.1) (b := o) (s := s) (by simp) (by simp) (by simp)
      have hat : atI (acc.1.map eMb) (p : Int) = some (eMb x) := by rw [atI_nat', List.getElem?_map, hx2]; rfl
      have s1 : acc.1.length < sizeLine := by omega
      have s2 : acc.2.length < sizeLine := by omega
      cases h : touchT s x.1 o with
      | true =>
        refine ⟨_, [some F, some (.lst (l.map eTr)), some (.int s), some (.lst ((acc.1 ++ [(o, some p)]).map eMb)), some (.int (p : Nat)), some (.lst (acc.2.map eTr)), some (eTr o)], rfl, .inl ?_, ?_, some (eTr o), ?_⟩
        · rw [h] at ht
          simp [w_grow_class_1, hat, ht, s1]
          rfl
        · rw [ha]; simp [h]
        · simp
      | false =>
        refine ⟨_, [some F, some (.lst (l.map eTr)), some (.int s), some (.lst (acc.1.map eMb)), some (.int (p : Nat)), some (.lst ((acc.2 ++ [o]).map eTr)), some (eTr o)], rfl, .inl ?_, ?_, some (eTr o), ?_⟩
        · rw [h] at ht
          simp [w_grow_class_1, hat, ht, s2]
        · rw [ha]; simp [h]
        · simp) ⟨by simp, c6, rfl⟩
  rw [Nat.zero_add, List.take_length] at ha
  rw [ha] at e
  exact ⟨c6', by rw [h1, e]⟩
theorem grow_while {F : D} {s : Int} : ∀ (f p : Nat) (m : List (Mem Tri)) (l : List Tri) (c5 c6 : Option D), m.length + l.length ≤ 1000000 → m.length + l.length ≤ p + f → p ≤ m.length →
    ∃ c4 c5' c6', oWhile (gT (g2 (gVar 4) (g1 (gVar 3) lenD) ltD)) w_grow_class_2 [some F, some (.lst (l.map eTr)), some (.int s), some (.lst (m.map eMb)), some (.int (p : Nat)), c5, c6] =
      .nx [some F, some (.lst ((growL (touchT s) f p m l).2.map eTr)), some (.int s), some (.lst ((growL (touchT s) f p m l).1.map eMb)), c4, c5', c6'] := by
  intro f
  induction f with
  | zero =>
    intro p m l c5 c6 hl hf hp
    have e : p = m.length := by omega
    rw [oWhile_eq]
    have hn : ¬ ((p : Int) < (m.length : Int)) := by omega
    exact ⟨some (.int (p : Nat)), c5, c6, by simp [hn, growL]⟩
  | succ f ih =>
    intro p m l c5 c6 hl hf hp
    rw [oWhile_eq]
    cases hx : m[p]? with
    | none =>
      have h1 := List.getElem?_eq_none_iff.mp hx
      have hn : ¬ ((p : Int) < (m.length : Int)) := by omega
      exact ⟨some (.int (p : Nat)), c5, c6, by simp [hn, growL, hx]⟩
    | some x =>
      have h1 := (List.getElem?_eq_some_iff.mp hx).1
      have hn : ((p : Int) < (m.length : Int)) := by omega
      obtain ⟨c6', k⟩ := grow_in (F := F) (s := s) hx hl c5 c6
      have hlen := (filter_perm (fun o => touchT s x.1 o) l).length_eq
      rw [List.length_append] at hlen
      have k2 : w_grow_class_2 [some F, some (.lst (l.map eTr)), some (.int s), some (.lst (m.map eMb)), some (.int (p : Nat)), c5, c6] = .nx [some F, some (.lst ((l.filter fun o => !touchT s x.1 o).map eTr)), some (.int s), some (.lst ((m ++ (l.filter fun o => touchT s x.1 o).map fun o => (o, some p)).map eMb)), some (.int ((p + 1 : Nat) : Int)), some (.lst ((l.filter fun o => !touchT s x.1 o).map eTr)), c6'] := by
        unfold w_grow_class_2
        simp [-List.map_append, -List.map_map]
        rw [k]
        simp [-List.map_append, -List.map_map]
      obtain ⟨c4, c5', c6'', k3⟩ := ih (p + 1) (m ++ (l.filter fun o => touchT s x.1 o).map fun o => (o, some p)) (l.filter fun o => !touchT s x.1 o) (some (.lst ((l.filter fun o => !touchT s x.1 o).map eTr))) c6' (by rw [List.length_append, List.length_map]; omega) (by rw [List.length_append, List.length_map]; omega) (by rw [List.length_append, List.length_map]; omega)
      refine ⟨c4, c5', c6'', ?_⟩
      have ec : ((p + 1 : Nat) : Int) = (p : Int) + 1 := by omega
      rw [ec] at k2 k3
      simp [hn, k2, -List.map_append, -List.map_map]
      rw [k3]
      simp [growL, hx]
theorem grow_class_e {X : D} {a : Tri} {l : List Tri} {s : Int} (h0 : ixD X (.int 0) = .ok (.int a.1)) (h1 : ixD X (.int 1) = .ok (.int a.2.1)) (h2 : ixD X (.int 2) = .ok (.int a.2.2)) (hl : l.length < 1000000) :
    g_grow_class [X, .lst (l.map eTr), .int s] = .ok (.tup [.lst ((growL (touchT s) (l.length + 1) 0 [(a, none)] l).1.map eMb), .lst ((growL (touchT s) (l.length + 1) 0 [(a, none)] l).2.map eTr)]) := by
  unfold g_grow_class
  rw [fnG_e]
  simp [h0, h1, h2]
  obtain ⟨c4, c5, c6, k⟩ := grow_while (F := X) (s := s) (l.length + 1) 0 [(a, none)] l none none (by simp; omega) (by simp; omega) (by simp)
  have e : [D.tup [.int a.1, .int a.2.1, .int a.2.2, .non]] = [((a, none) : Mem Tri)].map eMb := rfl
  rw [e]
  have k' := k
  simp only [Int.natCast_zero] at k'
  rw [k']
  simp
def eCl (m : List (Mem Tri)) : D := .lst (m.map eMb)
theorem cutX_tail {α : Type} (a : α) (l : List α) : cutX (a :: l) (some 1) none = l := by
  unfold cutX HT.sIx
  simp
theorem classes_while {F : D} {s : Int} : ∀ (f : Nat) (l : List Tri) (acc : List (List (Mem Tri))) (c4 : Option D), l.length ≤ f → acc.length + f < 1000000 → ∃ c4', oWhile (gT (g2 (g1 (gVar 3) lenD) (gC (.int 0)) gtD)) w_classes_of_1 [some F, some (.int s), some (.lst (acc.map eCl)), some (.lst (l.map eTr)), c4] =
    .nx [some F, some (.int s), some (.lst ((acc ++ classL (touchT s) f l).map eCl)), some (.lst []), c4'] := by
  intro f
  have hz := sizeL
  induction f with
  | zero =>
    intro l acc c4 hl ha
    have : l = [] := List.eq_nil_of_length_eq_zero (by omega)
    subst this
    rw [oWhile_eq]
    exact ⟨c4, by simp [classL]⟩
  | succ f ih =>
    intro l acc c4 hl ha
    rw [oWhile_eq]
    cases l with
    | nil => exact ⟨c4, by simp [classL]⟩
    | cons a l =>
      rw [List.length_cons] at hl
      have g := grow_class_e (X := eTr a) (a := a) (l := l) (s := s) (by simp) (by simp) (by simp) (by omega)
      have c := (growL_class (t := touchT s) a l).len
      have ep : classL (touchT s) (f + 1) (a :: l) = (growL (touchT s) (l.length + 1) 0 [(a, none)] l).1 :: classL (touchT s) f (growL (touchT s) (l.length + 1) 0 [(a, none)] l).2 := rfl
      generalize growL (touchT s) (l.length + 1) 0 [(a, none)] l = r at *
      obtain ⟨c4', k⟩ := ih r.2 (acc ++ [r.1]) (some (eCl r.1)) (by omega) (by rw [List.length_append]; simp; omega)
      have hpos : (0 : Int) < (l.length : Int) + 1 := by omega
      have hlt : acc.length < sizeLine := by omega
      have hct : cutX (a :: l) (some 1) none = l := cutX_tail a l
      have k2 : w_classes_of_1 [some F, some (.int s), some (.lst (acc.map eCl)), some (.lst ((a :: l).map eTr)), c4] = .nx [some F, some (.int s), some (.lst ((acc ++ [r.1]).map eCl)), some (.lst (r.2.map eTr)), some (eCl r.1)] := by
        unfold w_classes_of_1
        rw [List.map_cons]
        simp only [oSeq_e, oAsg_e, gCall_e, gCons_e, g2_e, gVar_s, gVar_z, Res.bind_ok, k2_e, gC_e, ixD_lst, atI_z]
        rw [← List.map_cons]
        simp [-List.map_cons, hct, g, hlt, eCl]
        rfl
      refine ⟨c4', ?_⟩
      have hlen : ((a :: l).map eTr).length = l.length + 1 := by simp
      simp [hpos, -List.map_append, -List.map_cons]
      rw [k2]
      dsimp only
      rw [k, ep]
      simp
theorem classes_of_e {l : List Tri} {s : Int} (hl : l.length ≤ 900000) : g_classes_of [.lst (l.map eTr), .int s] = .ok (.lst ((classes (touchT s) l).map eCl)) := by
  unfold g_classes_of
  rw [fnG_e]
  obtain ⟨c4, k⟩ := classes_while (F := .lst (l.map eTr)) (s := s) l.length l [] none (Nat.le_refl _) (by simp; omega)
  simp at k
  simp [k, classes]
theorem pieces_e {p : Pic} (hl : nS p ≤ 900000) : g_pieces [ePic p] = .ok (.lst ((classes (touchT 1) (strOf p)).map eCl)) := by
  have hz := sizeL
  unfold g_pieces
  rw [fnG_e]
  have hs := stretches_of_e (p := p) (by have : (strOf p).length = nS p := rfl; omega)
  simp [hs, classes_of_e (l := strOf p) (s := 1) hl]
theorem law_stretches_e {p : Pic} (hl : (strOf p).length ≤ sizeLine) : g__law_stretches [ePic p] = .ok (.lst ((strOf p).map eTr)) := by
  unfold g__law_stretches
  rw [fnG_e]
  simp
  obtain ⟨ρ', h1, hn, c2, c3, c4, c5, e⟩ := forO_ix (b := bTup 2 (bCons (bName 2) (bCons (bName 3) bNil))) (body := w__law_stretches_2) eT (fun n (acc : List Tri) ρ => acc = strOf (p.take n) ∧ ∃ c2 c3 c4 c5, ρ = [some (ePic p), some (.lst (acc.map eTr)), c2, c3, c4, c5])
    (fun acc t => acc ++ t.2.map fun s => (t.1, s.1, s.2)) p 0 [] [some (ePic p), some (.lst []), none, none, none, none] (fun i hi acc ρ ⟨ha, c2, c3, c4, c5, e⟩ => by
      subst e
      have htk : p.take (i + 1) = p.take i ++ [p[i]] := by rw [List.take_succ_eq_append_getElem hi]
      have hs : strOf (p.take (i + 1)) = strOf (p.take i) ++ p[i].2.map fun s => (p[i].1, s.1, s.2) := by
        rw [htk]
        unfold strOf
        rw [List.flatMap_append, List.flatMap_cons, List.flatMap_nil, List.append_nil]
      have hz : 0 + i = i := Nat.zero_add i
      rw [hz] at ha ⊢
      have hle : (strOf (p.take (i + 1))).length ≤ sizeLine := by
        refine Nat.le_trans ?_ hl
        have : strOf p = strOf (p.take (i + 1)) ++ strOf (p.drop (i + 1)) := by
          unfold strOf
          rw [← List.flatMap_append, List.take_append_drop]
        rw [this, List.length_append]
        omega
      generalize p[i] = t at hs ⊢
      obtain ⟨ρ2, k1, hk, c4', c5', k2⟩ := forO_ix (b := bTup 2 (bCons (bName 4) (bCons (bName 5) bNil))) (body := w__law_stretches_1) eP (fun n (a : List Tri) ρ => a.length = acc.length + n ∧ ∃ c4 c5, ρ = [some (ePic p), some (.lst (a.map eTr)), some (.int t.1), some (eR t.2), c4, c5])
        (fun a s => a ++ [(t.1, s.1, s.2)]) t.2 0 acc [some (ePic p), some (.lst (acc.map eTr)), some (.int t.1), some (eR t.2), c4, c5] (fun j hj a ρ ⟨hal, c4, c5, e⟩ => by
          subst e
          generalize t.2[j] = s
          have hlt : a.length < sizeLine := by
            rw [hs, List.length_append, List.length_map, ← ha] at hle
            omega
          refine ⟨_, _, by simp; rfl, .inl (by simp [w__law_stretches_1, hlt]; rfl), by simp; omega, some (.int s.1), some (.int s.2), by simp [eTr]⟩) ⟨by omega, c4, c5, rfl⟩
      rw [foldl_app] at k2
      have hm : (t.2.flatMap fun s => [(t.1, s.1, s.2)]) = t.2.map fun s => (t.1, s.1, s.2) := List.map_eq_flatMap.symm
      rw [hm] at k2
      exact ⟨_, _, by simp; rfl, .inl (by unfold w__law_stretches_2; simp; rw [k1]), by rw [hs, ha], _, _, _, _, k2⟩) ⟨by simp [strOf], none, none, none, none, rfl⟩
  rw [h1]
  have hz : 0 + p.length = p.length := Nat.zero_add _
  rw [hz, List.take_length] at hn
  subst e
  rw [hn]
  simp
end P
namespace P
open PySem L2 FL
def ltTr (a b : Tri) : Prop := a.1 < b.1 ∨ (a.1 = b.1 ∧ (a.2.1 < b.2.1 ∨ (a.2.1 = b.2.1 ∧ a.2.2 < b.2.2)))
theorem law_touch_e {X Y : D} {a b : Tri} (x0 : ixD X (.int 0) = .ok (.int a.1)) (x1 : ixD X (.int 1) = .ok (.int a.2.1)) (x2 : ixD X (.int 2) = .ok (.int a.2.2)) (y0 : ixD Y (.int 0) = .ok (.int b.1)) (y1 : ixD Y (.int 1) = .ok (.int b.2.1)) (y2 : ixD Y (.int 2) = .ok (.int b.2.2)) : g__law_touch [X, Y] = .ok (.bl (touchT 1 a b)) := by
  unfold g__law_touch
  rw [fnG_e]
  unfold touchT
  by_cases h1 : a.1 = b.1 + 1
  · by_cases h2 : a.2.1 ≤ b.2.2 + 1
    · simp [x0, x1, x2, y0, y1, y2, h1, h2]
      omega
    · simp [x0, x1, x2, y0, y1, y2, h1, h2]
  · by_cases h3 : b.1 = a.1 + 1
    · by_cases h2 : a.2.1 ≤ b.2.2 + 1
      · simp [x0, x1, x2, y0, y1, y2, h1, h3, h2]
        omega
      · simp [x0, x1, x2, y0, y1, y2, h1, h3, h2]
    · simp [x0, x1, x2, y0, y1, y2, h1, h3]
      omega
theorem whole_e (i : Int) : g__law_whole [.int i] = .ok (.bl true) := by
  unfold g__law_whole
  rw [fnG_e]
  simp
theorem kinds_e (x : Mem Tri) : g__law_kinds [eMb x] = .ok (.bl true) := by
  have h1 : isiG "tuple" (eMb x) = .ok (.bl true) := by simp [eMb]
  have h2 : lenD (eMb x) = .ok (.int 4) := rfl
  unfold g__law_kinds
  rw [fnG_e]
  simp [h1, h2, whole_e]
theorem cmpOk_eTr (a b : Tri) : cmpOk (eTr a) (eTr b) = true := rfl
theorem leT_eTr (a b : Tri) : leTD (eTr a) (eTr b) = .ok (.bl (leTr a b)) := by
  unfold leTD
  rw [if_pos (cmpOk_eTr a b), ordD_eTr]
theorem slT_eMb (x : Mem Tri) : slT (eMb x) none (some 3) = .ok (eTr x.1) := by
  unfold eMb
  simp
  rfl
theorem leTr_lt {a b : Tri} (h : ltTr a b) : leTr b a = false := by
  unfold ltTr at h
  unfold leTr
  rw [decide_eq_false_iff_not]
  omega
theorem walked_e {a : Tri} {l0 l : List Tri} {c : List (Mem Tri)} (C : Class (touchT 1) a l0 c l) (hord : (a :: l0).Pairwise ltTr) (hl : c.length ≤ 1000) : g__law_walked [eCl c] = .ok (.bl true) := by
  have hz := sizeL
  obtain ⟨r, hd⟩ := C.hd
  have hlen : 0 < c.length := by rw [hd]; simp
  have at_ : ∀ (k : Nat) (h : k < c.length), ixD (eCl c) (.int (k : Int)) = .ok (eMb c[k]) := fun k h => by
    unfold eCl
    rw [ixD_lst, atI_nat']
    simp [h]
  have a0 : ixD (eCl c) (.int 0) = .ok (eMb (a, none)) := by
    unfold eCl
    rw [hd, List.map_cons, ixD_lst, atI_z]
  have hle : lenD (eCl c) = .ok (.int (c.length : Nat)) := by simp [eCl]
  have his : isiG "list" (eCl c) = .ok (.bl true) := by simp [eCl]
  have hp3 : ixD (eMb (a, none)) (.int 3) = .ok .non := rfl
  obtain ⟨ρ', k1, c1, c2, c3, c4, e⟩ := forO_pass (b := bName 1) (body := w__law_walked_2) (fun i : Nat => D.int (1 + (i : Nat))) (fun ρ => ∃ c1 c2 c3 c4, ρ = [some (eCl c), c1, c2, c3, c4]) (List.range (c.length - 1)) [some (eCl c), none, none, none, none] (fun i hi ρ ⟨c1, c2, c3, c4, e⟩ => by
    subst e
    have hi := List.mem_range.mp hi
    have hk : 1 + i < c.length := by omega
    obtain ⟨j, j1, j2, j3, j4, j5⟩ := C.link (1 + i) (by omega) c[1 + i] (List.getElem?_eq_getElem hk)
    have hj : j < c.length := j3
    have j4 := j4 _ (List.getElem?_eq_getElem hj)
    have ak := at_ (1 + i) hk
    have aj := at_ j hj
    have ah := at_ i (by omega)
    rw [show ((1 + i : Nat) : Int) = 1 + (i : Nat) by omega] at ak
    have p3 : ixD (eMb c[1 + i]) (.int 3) = .ok (.int (j : Nat)) := by rw [eMb_3, j1]; rfl
    have tk : g__law_touch [eMb c[1 + i], eMb c[j]] = .ok (.bl true) := by
      rw [law_touch_e (eMb_0 _) (eMb_1 _) (eMb_2 _) (eMb_0 _) (eMb_1 _) (eMb_2 _), touchT_symm, j4]
    have inner : ∃ d3, forO (bName 3) w__law_walked_1 ((List.range j).map fun i : Nat => D.int (i : Nat)) [some (eCl c), some (.int (1 + (i : Nat))), some (.int (j : Nat)), c3, c4] = .nx [some (eCl c), some (.int (1 + (i : Nat))), some (.int (j : Nat)), d3, c4] := by
      obtain ⟨ρ', k1, d3, e⟩ := forO_pass (b := bName 3) (body := w__law_walked_1) (fun i : Nat => D.int (i : Nat)) (fun ρ => ∃ d3, ρ = [some (eCl c), some (.int (1 + (i : Nat))), some (.int (j : Nat)), d3, c4]) (List.range j) [some (eCl c), some (.int (1 + (i : Nat))), some (.int (j : Nat)), c3, c4] (fun q hq ρ ⟨d3, e⟩ => by
        subst e
        have hq := List.mem_range.mp hq
        have hqc : q < c.length := by omega
        have aq := at_ q hqc
        have tq : g__law_touch [eMb c[1 + i], eMb c[q]] = .ok (.bl false) := by
          rw [law_touch_e (eMb_0 _) (eMb_1 _) (eMb_2 _) (eMb_0 _) (eMb_1 _) (eMb_2 _), touchT_symm, j5 q hq _ (List.getElem?_eq_getElem hqc)]
        generalize eCl c = X at *
        generalize eMb c[1 + i] = Y at *
        generalize eMb c[q] = Z at *
        exact ⟨_, [some X, some (.int (1 + (i : Nat))), some (.int (j : Nat)), some (.int (q : Nat)), c4], rfl, .inl (by simp [w__law_walked_1, ak, aq, tq]), _, rfl⟩) ⟨c3, rfl⟩
      subst e
      exact ⟨d3, k1⟩
    obtain ⟨d3, inner⟩ := inner
    have hrg : rgOk (j : Int) = true := rgOk_len (by omega)
    have kk := kinds_e c[1 + i]
    have wj := whole_e (j : Int)
    have e1 : (1 + (i : Int)) - 1 = (i : Int) := by omega
    have hge : ¬ (1 + (i : Int)) ≤ (j : Int) := by omega
    have hn : ¬ (j : Int) < 0 := by omega
    have s1 := slT_eMb c[1 + i]
    have s2 := slT_eMb c[i]
    refine ⟨[some (eCl c), some (.int (1 + (i : Nat))), c2, c3, c4], [some (eCl c), some (.int (1 + (i : Nat))), some (.int (j : Nat)), d3, some (eMb c[i])], rfl, .inl ?_, _, _, _, _, rfl⟩
    by_cases h1 : 0 < i
    · obtain ⟨q, q', o1, o2, o3, o4⟩ := C.ord i (1 + i) h1 (by omega) c[i] c[1 + i] (List.getElem?_eq_getElem (by omega)) (List.getElem?_eq_getElem hk)
      rw [j1] at o2
      cases o2
      have p4 : ixD (eMb c[i]) (.int 3) = .ok (.int (q : Nat)) := by rw [eMb_3, o1]; rfl
      have g1 : (1 : Int) < 1 + (i : Int) := by omega
      have g2 : ¬ (j : Int) < (q : Int) := by omega
      by_cases h2 : j = q
      · have hs := o4 h2.symm
        have hlt : ltTr c[i].1 c[1 + i].1 := by
          have := (List.Pairwise.sublist (hs.trans (List.sublist_cons_self a l0)) hord)
          exact (List.pairwise_cons.mp this).1 _ (List.mem_singleton.mpr rfl)
        have lt := leT_eTr c[1 + i].1 c[i].1
        rw [leTr_lt hlt] at lt
        subst h2
        generalize eTr c[1 + i].1 = T1 at *
        generalize eTr c[i].1 = T2 at *
        generalize eMb c[1 + i] = Y at *
        generalize eMb c[j] = Z at *
        generalize eMb c[i] = V at *
        generalize eCl c = X at *
        simp [w__law_walked_2, ak, kk, p3, wj, hge, hn, aj, tk, hrg, rngD_0, inner, e1, ah, g1, g2, p4, s1, s2, lt]
      · have g3 : ¬ (j : Int) = (q : Int) := by omega
        generalize eMb c[1 + i] = Y at *
        generalize eMb c[j] = Z at *
        generalize eMb c[i] = V at *
        generalize eCl c = X at *
        simp [w__law_walked_2, ak, kk, p3, wj, hge, hn, aj, tk, hrg, rngD_0, inner, e1, ah, g1, g2, p4, g3]
    · have h0 : i = 0 := by omega
      subst h0
      generalize eMb c[1 + 0] = Y at *
      generalize eMb c[j] = Z at *
      generalize eMb c[0] = V at *
      generalize eCl c = X at *
      have hge2 : ¬ (1 : Int) ≤ (j : Int) := by omega
      simp at ak inner ah
      simp [w__law_walked_2, ak, kk, p3, wj, hge2, hn, aj, tk, hrg, rngD_0, inner, ah]) ⟨none, none, none, none, rfl⟩
  subst e
  have hrg2 : rgOk (c.length : Int) = true := rgOk_len (by omega)
  have hrng : rngD 1 (c.length - 1) = (List.range (c.length - 1)).map fun i : Nat => D.int (1 + (i : Nat)) := rfl
  have kk := kinds_e (a, none)
  have hl0 : ¬ (c.length : Int) = 0 := by omega
  have hl0' : ¬ c = [] := fun z => by rw [z] at hlen; simp at hlen
  have r1 : rgOk 1 = true := by decide
  unfold g__law_walked
  rw [fnG_e]
  generalize eMb (a, none) = Y at *
  generalize eCl c = X at *
  simp [his, hle, hl0, hl0', a0, kk, hp3, hrg2, r1, hrng, k1]
theorem dat_eMb (n : Nat) (x : Mem Tri) : Dat (n + 1) (eMb x) := by
  intro y hy
  simp at hy
  rcases hy with rfl | rfl | rfl | rfl
  · cases n <;> trivial
  · cases n <;> trivial
  · cases n <;> trivial
  · cases x.2 <;> (cases n <;> trivial)
theorem dat_eCl (n : Nat) (m : List (Mem Tri)) : Dat (n + 2) (eCl m) := by
  intro y hy
  obtain ⟨x, _, rfl⟩ := List.mem_map.mp hy
  exact dat_eMb n x
/-- what is copied -/
theorem nl_eMb (x : Mem Tri) : nl 6 (eMb x) = true := by
  cases h : x.2 <;> simp [nl, eMb, plD, h]
theorem nl_ePic (p : Pic) : nl 7 (ePic p) = true := by
  unfold ePic
  simp [nl, eT, eR, eP]
theorem str_ltTr {p : Pic} (h : IsPic p) : (strOf p).Pairwise ltTr := by
  refine (starts_lt h).imp_of_mem fun {a b} ha hb g => ?_
  have ho := (str_start h ha).2.2.2.2
  unfold ltTr
  omega
theorem ltTr_as (a b : Tri) (h : ltTr a b) (k : ltTr b a) : False := by
  unfold ltTr at h k
  omega
theorem sort_ltTr {ts : List Tri} (nd : ts.Nodup) : (ts.mergeSort leTr).Pairwise ltTr := by
  have h1 : (ts.mergeSort leTr).Pairwise fun a b => leTr a b = true := List.pairwise_mergeSort leTr_trans leTr_total ts
  have h2 : (ts.mergeSort leTr).Nodup := (List.mergeSort_perm ts leTr).nodup_iff.mpr nd
  refine (List.Pairwise.and h1 h2).imp fun {a b} ⟨g, ne⟩ => ?_
  unfold leTr at g
  unfold ltTr
  have g := of_decide_eq_true g
  by_cases e1 : a.1 = b.1
  · by_cases e2 : a.2.1 = b.2.1
    · by_cases e3 : a.2.2 = b.2.2
      · exact absurd (Prod.ext e1 (Prod.ext e2 e3)) ne
      · omega
    · omega
  · omega
theorem tail_e {p : Pic} (hp : IsPic p) (hn : nS p ≤ 1000) : oThaw [1] (oSeq (oSet 2 (gCall g_pieces (gCons (gVar 1) gNil))) r_law_2) [some (.scr ns), some (ePic p), none, none, none, none, none] = .rt (.bl true) := by
  have hz := sizeL
  refine oThaw_rt (by simp [nlK, nl_ePic]) ?_
  have hsl : (strOf p).length = nS p := rfl
  have kp := pieces_e (p := p) (by omega)
  have hcls := classes_cls (t := touchT 1) (strOf p)
  have hperm := hcls.perm
  have heach := hcls.each
  have hsum := cls_sum hcls
  have hlenc : ∀ c ∈ classes (touchT 1) (strOf p), c.length ≤ 1000 := fun c hc => by
    have := cls_len hcls hc
    omega
  have hne : ∀ c ∈ classes (touchT 1) (strOf p), 0 < c.length := fun c hc => by
    obtain ⟨a, l0, l', C, _⟩ := heach c hc
    obtain ⟨r, e⟩ := C.hd
    rw [e]; simp
  have hcl : (classes (touchT 1) (strOf p)).length ≤ 1000 := by
    have : ∀ cs : List (List (Mem Tri)), (∀ c ∈ cs, 0 < c.length) → cs.length ≤ (cs.map (·.length)).sum := fun cs => by
      induction cs with
      | nil => intro _; simp
      | cons c cs ih =>
        intro h
        have h1 := h c List.mem_cons_self
        have h2 := ih fun x hx => h x (List.mem_cons_of_mem _ hx)
        simp
        omega
    have := this _ hne
    omega
  have hw : ∀ c ∈ classes (touchT 1) (strOf p), g__law_walked [eCl c] = .ok (.bl true) := fun c hc => by
    obtain ⟨a, l0, l', C, sub⟩ := heach c hc
    exact walked_e C ((str_ltTr hp).sublist sub) (hlenc c hc)
  have kst := law_stretches_e (p := p) (by omega)
  have hsorted : ((classes (touchT 1) (strOf p)).flatMap fun m => m.map (·.1)).mergeSort leTr = strOf p := by
    refine sorted_eq ltTr_as (sort_ltTr ?_) (str_ltTr hp) fun x => by rw [List.mem_mergeSort]; exact hperm.mem_iff
    exact hperm.nodup_iff.mpr ((str_ltTr hp).imp fun h e => by subst e; exact ltTr_as _ _ h h)
  have hpl : ((classes (touchT 1) (strOf p)).flatMap fun m => m.map (·.1)).length ≤ 1000 := by rw [hperm.length_eq]; omega
  generalize classes (touchT 1) (strOf p) = CS at *
  obtain ⟨ρ', k1, hs, hsn, c4, c5, e⟩ := forO_ix (b := bName 4) (body := w_law_1) eCl (fun n (acc : List Tri) ρ => acc = (CS.take n).flatMap (fun m => m.map (·.1)) ∧ True ∧ ∃ c4 c5, ρ = [none, some (ePic p), some (.lst (CS.map eCl)), some (.lst (acc.map eTr)), c4, c5, none])
    (fun acc c => acc ++ c.map (·.1)) CS 0 [] [none, some (ePic p), some (.lst (CS.map eCl)), some (.lst []), none, none, none] (fun i hi acc ρ ⟨ha, _, c4, c5, e⟩ => by
      subst e
      rw [Nat.zero_add] at ha ⊢
      have hm : CS[i] ∈ CS := List.getElem_mem hi
      have hwi := hw _ hm
      have hci := hlenc _ hm
      have htk : CS.take (i + 1) = CS.take i ++ [CS[i]] := List.take_succ_eq_append_getElem hi
      have hacc : acc.length ≤ 1000 := by
        rw [ha]
        refine Nat.le_trans ?_ hpl
        have e1 : CS = CS.take i ++ CS.drop i := (List.take_append_drop i CS).symm
        conv => rhs; rw [e1]
        rw [List.flatMap_append, List.length_append]
        omega
      have hcomp : gComp [5] (gSeq (gVar 4)) (bName 5) gYes (gSl (gVar 5) none (some (gC (.int 3))) slT) [none, some (ePic p), some (.lst (CS.map eCl)), some (.lst (acc.map eTr)), some (eCl CS[i]), c5, none] = .ok (.lst ((CS[i].map (·.1)).map eTr)) := by
        rw [gComp_all (xs := CS[i]) eMb (fun x => eTr x.1) (by simp [eCl]) (by omega) (fun x _ => ⟨_, rfl, by simp [slT_eMb]⟩), List.map_map]
        rfl
      refine ⟨_, [none, some (ePic p), some (.lst (CS.map eCl)), some (.lst ((acc ++ CS[i].map (·.1)).map eTr)), some (eCl CS[i]), c5, none], rfl, .inl ?_, by rw [htk, List.flatMap_append, ha]; simp, trivial, _, _, rfl⟩
      have hlt : acc.length + CS[i].length ≤ sizeLine := by omega
      generalize eCl CS[i] = Y at *
      generalize ePic p = PP at *
      generalize CS.map eCl = KK at *
      generalize CS[i] = cc at *
      simp [w_law_1, hwi, hcomp, hlt]) ⟨by simp, trivial, none, none, rfl⟩
  subst e
  rw [Nat.zero_add, List.take_length] at hs
  rw [hs] at k1
  have hsort := sortD_eTr (CS.flatMap fun m => m.map (·.1))
  rw [hsorted] at hsort
  have heq : eqD true (.lst ((strOf p).map eTr)) (.lst ((strOf p).map eTr)) = .ok (.bl false) := eqD_same true (by decide : 2 ≤ 64) (dat_lTr 0 (strOf p))
  have hcopy : compO [4] (bName 4) gYes (g1 (gVar 4) listD) [none, some (ePic p), some (.lst (CS.map eCl)), some (.lst ((CS.flatMap fun m => m.map (·.1)).map eTr)), c4, c5, none] (CS.map eCl) = .ok (CS.map eCl) := by
    have := compO_map (vs := [4]) (b := bName 4) (gt := gYes) (ge := g1 (gVar 4) listD) (ρ := [none, some (ePic p), some (.lst (CS.map eCl)), some (.lst ((CS.flatMap fun m => m.map (·.1)).map eTr)), c4, c5, none]) eCl (fun _ => true) eCl (xs := CS) fun c hc => ⟨_, rfl, rfl, fun _ => by simp [eCl]⟩
    rw [this, List.filter_eq_self.mpr fun _ _ => rfl]
  have dcs : Dat 3 (.lst (CS.map eCl)) := by
    intro x hx
    obtain ⟨c, _, rfl⟩ := List.mem_map.mp hx
    exact dat_eCl 0 c
  have heq2 := eqD_same false (by decide : 3 ≤ 64) dcs
  have h6 : r_law_6 [none, some (ePic p), some (.lst (CS.map eCl)), some (.lst ((CS.flatMap fun m => m.map (·.1)).map eTr)), c4, c5, none] = .rt (.bl true) := by
    refine oDeepT_rt rfl hcopy ?_ ?_
    · have o1 : (CS.map eCl).all okE = true := by
        rw [List.all_map, List.all_eq_true]
        intro c hc
        have := hlenc c hc
        show ((c.map eMb).all (nl 6) && decide ((c.map eMb).length ≤ 1000000)) = true
        rw [List.all_map, List.length_map]
        simp [nl_eMb]
        omega
      have o2 : (CS.map eCl).all nlO = true := by
        rw [List.all_map, List.all_eq_true]
        intro c hc
        show (c.map eMb).all (nl 6) = true
        rw [List.all_map]
        simp [nl_eMb]
      unfold deepOk
      rw [o1, o2]
      simp [nlK, nl_ePic]
      omega
    · generalize ePic p = PP at *
      generalize CS.map eCl = KK at *
      simp at heq2
      simp [kp, heq2]
  generalize ePic p = PP at *
  generalize CS.map eCl = KK at *
  generalize (strOf p).map eTr = SS at *
  simp [keepE, kp, r_law_2, r_law_3, r_law_4, r_law_5, k1, hsort, kst, heq, h6]
theorem law_true (ns : List Int) (h : ns.length ≤ 63) : g_law [.scr ns] = .ok (.bl true) := by
  obtain ⟨p, kp, hp, l1, l2, _⟩ := lpic_e ns h
  have hn : nS p ≤ 160 := by
    have h1 : (strOf p).length ≤ p.length * 8 := by
      have : ∀ q : Pic, (∀ t ∈ q, t.2.length ≤ 8) → (strOf q).length ≤ q.length * 8 := fun q => by
        induction q with
        | nil => intro _; simp [strOf]
        | cons t q ih =>
          intro h
          have h1 := h t List.mem_cons_self
          have h2 := ih fun x hx => h x (List.mem_cons_of_mem _ hx)
          have e : strOf (t :: q) = (t.2.map fun s => (t.1, s.1, s.2)) ++ strOf q := by unfold strOf; rw [List.flatMap_cons]
          rw [e, List.length_append, List.length_map, List.length_cons]
          omega
      exact this p l2
    have e : (strOf p).length = nS p := rfl
    omega
  have T := tail_e (ns := ns) hp (by omega)
  unfold g_law
  rw [fnG_e]
  simp [kp]
  have e : r_law_1 = oThaw [1] (oSeq (oSet 2 (gCall g_pieces (gCons (gVar 1) gNil))) r_law_2) := rfl
  rw [e, T]
  rfl
end P
open PySem PySem.W PyProof.Rows in
set_option maxHeartbeats 0 in
theorem PySem.Challenge.cw_shapethin_k41_pieces_walked_holds : PySem.Challenge.rw_shapethin_k41_pieces_walked.Holds := by
  w_on; o_law; k_head; (case hw => w_witness2)
  k_fill
  refine L2.walk_of (l := PySem.Challenge.rw_shapethin_k41_pieces_walked) (n := 63) (k := 5) (x := "_law_script") (CX := fun w => L2.CX PySem.Challenge.rw_shapethin_k41_pieces_walked.prog w) (sp := fun w => FL.spF ⟨_, fun _ => none⟩ 1 .sh P.g_law) rfl (by decide) rfl ⟨rfl, by decide, by decide⟩ (fun w h Y => PySem.W.kIn_of Y) ?F (fun _ H a ns hl _ hS => FL.hsp_of P.law_true H a ns hl hS) (fun _ _ _ _ _ h => FL.hcx h)
  case F =>
    intro w mg fa h KX G hmg
    refine' P.all_mk KX G hmg ?a1 ?l1 ?c1 ?k1 ?a2 ?l2 ?c2 ?k2 ?a3 ?l3 ?c3 ?k3 ?a4 ?l4 ?c4 ?k4 ?a5 ?l5 ?c5 ?k5 ?a6 ?l6 ?c6 ?k6 ?a7 ?l7 ?c7 ?k7 ?a8 ?l8 ?c8 ?k8 ?a9 ?l9 ?c9 ?k9 ?a10 ?l10 ?c10 ?k10 ?a11 ?l11 ?c11 ?k11 ?a12 ?l12 ?c12 ?k12 ?a13 ?l13 ?c13 ?k13 ?a14 ?l14 ?c14 ?k14 ?a15 ?l15 ?c15 ?k15 ?z_abs ?z_bool ?z_int ?z_isinstance ?z_len ?z_list ?z_min ?z_range ?z_sorted ?z_tuple
    (case a1 => k_is); (case l1 => k_is); (case c1 => k_is); (case k1 => k_is); (case a2 => k_is); (case l2 => k_is); (case c2 => k_is); (case k2 => k_is); (case a3 => k_is); (case l3 => k_is); (case c3 => k_is); (case k3 => k_is); (case a4 => k_is); (case l4 => k_is); (case c4 => k_is); (case k4 => k_is); (case a5 => k_is); (case l5 => k_is); (case c5 => k_is); (case k5 => k_is); (case a6 => k_is); (case l6 => k_is); (case c6 => k_is); (case k6 => k_is); (case a7 => k_is); (case l7 => k_is); (case c7 => k_is); (case k7 => k_is); (case a8 => k_is); (case l8 => k_is); (case c8 => k_is); (case k8 => k_is); (case a9 => k_is); (case l9 => k_is); (case c9 => k_is); (case k9 => k_is); (case a10 => k_is); (case l10 => k_is); (case c10 => k_is); (case k10 => k_is); (case a11 => k_is); (case l11 => k_is); (case c11 => k_is); (case k11 => k_is); (case a12 => k_is); (case l12 => k_is); (case c12 => k_is); (case k12 => k_is); (case a13 => k_is); (case l13 => k_is); (case c13 => k_is); (case k13 => k_is); (case a14 => k_is); (case l14 => k_is); (case c14 => k_is); (case k14 => k_is); (case a15 => k_is); (case l15 => k_is); (case c15 => k_is); (case k15 => k_is); (case z_abs => k_is); (case z_bool => k_is); (case z_int => k_is); (case z_isinstance => k_is); (case z_len => k_is); (case z_list => k_is); (case z_min => k_is); (case z_range => k_is); (case z_sorted => k_is); (case z_tuple => k_is)
