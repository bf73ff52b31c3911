import PyProof.Rows.All
import Wide.All
import OpenK.AllK
import Wide.FinOn
import HandS.ForMost
import HandS.TupAny
import HandS.Wide
import HandS.IsInst
import HandS.Style
import HandS.Deep
import HandS.SetFor
import HandS.Zip
import HandS.Conv
import HandS.Text
import HandS.FStr
import HandS.Defaults
import HandS.More
import PyProof.DictUpdate
import HandS.SetKeys
import HandS.SetBool
import KE.DataFind
import HandS.DictComp
import HandS.CallLocal
import HandS.DictEq
import HandS.OwnEq
import PyProof.InstEq
import HandS.Codes
import PyProof.SumAny
import PySem.Challenge.RW_coverrows_k17_whole_fits_mean_the_node
set_option Elab.async false
set_option linter.all false
set_option maxRecDepth 100000
set_option maxHeartbeats 4000000
set_option autoImplicit false
/-! DL: data and numbered cells over the hand layer -/
namespace DL
open PySem L2

/-- a value: data, a cell's number, any other one -/
inductive U where
  | d (d : PyData) | p (n : Nat) | v (v : V) | s (K : PySem.W.Frag) (ns : List Int)
/-- what a cell holds -/
inductive Ob where
  | lst (ds : List PyData) | lsp (us : List U) | tpp (us : List U)
  | dic (kvs : List (Key × PyData)) | dip (kvs : List (Key × U)) | dit (kvs : List (List Key × PyData))
  | ins (C : Addr) (fs : List (Str × U)) | lkd (kvs : List (Key × PyData)) (od : Obj) | dead

mutual
inductive Rp (F : Hp) : PyData → V → Prop
  | non : Rp F .none .non
  | bl (b : Bool) : Rp F (.bool b) (.bl b)
  | int (i : Int) : Rp F (.int i) (.int i)
  | str (x : Str) : Rp F (.str x) (.str x)
  | lst {a : Addr} {vs : List V} {ds : List PyData} : F a = some (.lst vs) → RpL F ds vs → Rp F (.list ds) (.ref a)
  | tup {a : Addr} {vs : List V} {ds : List PyData} : F a = some (.tup vs) → RpL F ds vs → Rp F (.tuple ds) (.ref a)
inductive RpL (F : Hp) : List PyData → List V → Prop
  | nil : RpL F [] []
  | cons {d : PyData} {v : V} {ds : List PyData} {vs : List V} : Rp F d v → RpL F ds vs → RpL F (d :: ds) (v :: vs)
end

mutual
theorem Rp.mono {F F' : Hp} (e : Same F F') : ∀ {d : PyData} {v : V}, Rp F d v → Rp F' d v
  | _, _, .non => .non
  | _, _, .bl b => .bl b
  | _, _, .int i => .int i
  | _, _, .str x => .str x
  | _, _, .lst h r => .lst (e _ _ h) (RpL.mono e r)
  | _, _, .tup h r => .tup (e _ _ h) (RpL.mono e r)
theorem RpL.mono {F F' : Hp} (e : Same F F') : ∀ {ds : List PyData} {vs : List V}, RpL F ds vs → RpL F' ds vs
  | _, _, .nil => .nil
  | _, _, .cons h r => .cons (Rp.mono e h) (RpL.mono e r)
end
theorem RpL.length {F : Hp} : ∀ {ds : List PyData} {vs : List V}, RpL F ds vs → ds.length = vs.length
  | _, _, .nil => rfl
  | _, _, .cons _ r => by simp [RpL.length r]
theorem RpL.append {F : Hp} : ∀ {ds es : List PyData} {vs ws : List V}, RpL F ds vs → RpL F es ws → RpL F (ds ++ es) (vs ++ ws)
  | _, _, _, _, .nil, r => r
  | _, _, _, _, .cons h r, q => .cons h (RpL.append r q)
theorem RpL.get {F : Hp} : ∀ {ds : List PyData} {vs : List V}, RpL F ds vs → ∀ {i : Nat} {d : PyData}, ds[i]? = some d → ∃ v, vs[i]? = some v ∧ Rp F d v
  | _, _, .nil, i, d, h => by simp at h
  | _, _, .cons h r, 0, d, q => ⟨_, rfl, by simp at q; subst q; exact h⟩
  | _, _, .cons h r, i + 1, d, q => by
    obtain ⟨v, h1, h2⟩ := RpL.get r (i := i) (d := d) (by simpa using q)
    exact ⟨v, by simpa using h1, h2⟩
theorem RpL.getV {F : Hp} : ∀ {ds : List PyData} {vs : List V}, RpL F ds vs → ∀ {i : Nat} {v : V}, vs[i]? = some v → ∃ d, ds[i]? = some d ∧ Rp F d v
  | _, _, .nil, i, d, h => by simp at h
  | _, _, .cons h r, 0, d, q => ⟨_, rfl, by simp at q; subst q; exact h⟩
  | _, _, .cons h r, i + 1, d, q => by
    obtain ⟨v, h1, h2⟩ := RpL.getV r (i := i) (v := d) (by simpa using q)
    exact ⟨v, by simpa using h1, h2⟩
theorem RpL.take {F : Hp} : ∀ {ds : List PyData} {vs : List V} (n : Nat), RpL F ds vs → RpL F (ds.take n) (vs.take n)
  | _, _, 0, _ => by simpa using RpL.nil
  | _, _, _ + 1, .nil => .nil
  | _, _, n + 1, .cons h r => .cons h (RpL.take n r)
theorem RpL.drop {F : Hp} : ∀ {ds : List PyData} {vs : List V} (n : Nat), RpL F ds vs → RpL F (ds.drop n) (vs.drop n)
  | _, _, 0, r => r
  | _, _, _ + 1, .nil => .nil
  | _, _, n + 1, .cons _ r => RpL.drop n r
theorem RpL.reverse {F : Hp} {ds : List PyData} {vs : List V} (h : RpL F ds vs) : RpL F ds.reverse vs.reverse := by
  have key : ∀ {ds : List PyData} {vs : List V}, RpL F ds vs → RpL F ds.reverse vs.reverse := by
    intro ds
    induction ds with
    | nil => intro vs h; cases h; exact .nil
    | cons d ds ih =>
      intro vs h
      cases h with
      | cons h r =>
        rw [List.reverse_cons, List.reverse_cons]
        exact (ih r).append (.cons h .nil)
  exact key h
theorem RpL.set {F : Hp} {d : PyData} {v : V} (h : Rp F d v) : ∀ {ds : List PyData} {vs : List V} (n : Nat), RpL F ds vs → RpL F (ds.set n d) (vs.set n v)
  | _, _, _, .nil => .nil
  | _, _, 0, .cons _ r => .cons h r
  | _, _, n + 1, .cons q r => .cons q (RpL.set h n r)
theorem RpL.erase {F : Hp} : ∀ {ds : List PyData} {vs : List V} (n : Nat), RpL F ds vs → RpL F (ds.eraseIdx n) (vs.eraseIdx n)
  | _, _, _, .nil => .nil
  | _, _, 0, .cons _ r => r
  | _, _, n + 1, .cons q r => .cons q (RpL.erase n r)
theorem RpL.insert {F : Hp} {d : PyData} {v : V} (h : Rp F d v) : ∀ {ds : List PyData} {vs : List V} (n : Nat), RpL F ds vs → RpL F (ds.insertIdx n d) (vs.insertIdx n v)
  | _, _, 0, r => .cons h r
  | _, _, n + 1, .nil => .nil
  | _, _, n + 1, .cons q r => .cons q (RpL.insert h n r)
theorem RpL.flatRep {F : Hp} {ds : List PyData} {vs : List V} (h : RpL F ds vs) : ∀ n, RpL F (List.replicate n ds).flatten (List.replicate n vs).flatten
  | 0 => .nil
  | n + 1 => by
    rw [List.replicate_succ, List.replicate_succ, List.flatten_cons, List.flatten_cons]
    exact h.append (RpL.flatRep h n)
mutual
theorem Rp.dp {K : PySem.W.Frag} {F H : Hp} (e : Same F H) : ∀ {d : PyData} {v : V}, Rp F d v → Dp K H v d
  | _, _, .non => .non
  | _, _, .bl b => .bl b
  | _, _, .int i => .int i
  | _, _, .str x => .str x
  | _, _, .lst h r => .lst (SqL.of (e _ _ h)) (RpL.dp e r)
  | _, _, .tup h r => .tup (SqT.of (e _ _ h)) (RpL.dp e r)
theorem RpL.dp {K : PySem.W.Frag} {F H : Hp} (e : Same F H) : ∀ {ds : List PyData} {vs : List V}, RpL F ds vs → DpAll K H vs ds
  | _, _, .nil => .nil
  | _, _, .cons h r => .cons (Rp.dp e h) (RpL.dp e r)
end
theorem RpL.ints {F : Hp} : ∀ (ns : List Int), RpL F (ns.map PyData.int) (ns.map V.int)
  | [] => .nil
  | n :: ns => .cons (.int n) (RpL.ints ns)
theorem RpL.strs {F : Hp} : ∀ (ns : List Str), RpL F (ns.map PyData.str) (ns.map V.str)
  | [] => .nil
  | n :: ns => .cons (.str n) (RpL.strs ns)
theorem RpL.bls {F : Hp} : ∀ (ns : List Bool), RpL F (ns.map PyData.bool) (ns.map V.bl)
  | [] => .nil
  | n :: ns => .cons (.bl n) (RpL.bls ns)

/-- the frozen part, the cells' addresses -/
structure Wd where
  F : Hp
  th : List Addr

def RU (w : Wd) : U → V → Prop
  | .d d, v => Rp w.F d v
  | .p n, v => ∃ a, w.th[n]? = some a ∧ v = .ref a
  | .v x, v => v = x
  | .s K ns, v => ∃ a, v = .ref a ∧ SqL K w.F a (ns.map V.int)
abbrev RUs (w : Wd) : List U → List V → Prop := Paired (RU w)
def RO (w : Wd) : Ob → HO → Prop
  | .lst ds, o => ∃ vs, o = .lst vs ∧ RpL w.F ds vs
  | .lsp us, o => ∃ vs, o = .lst vs ∧ RUs w us vs
  | .tpp us, o => ∃ vs, o = .tup vs ∧ RUs w us vs
  | .dic kvs, o => ∃ ks, o = .dK ks ∧ Paired (fun (p : Key × PyData) (q : Key × V) => p.1 = q.1 ∧ Rp w.F p.2 q.2) kvs ks
  | .dip kvs, o => ∃ ks, o = .dK ks ∧ Paired (fun (p : Key × U) (q : Key × V) => p.1 = q.1 ∧ RU w p.2 q.2) kvs ks
  | .dit kvs, o => ∃ ks, o = .dT ks ∧ Paired (fun (p : List Key × PyData) (q : List Key × V) => p.1 = q.1 ∧ Rp w.F p.2 q.2) kvs ks
  | .ins C fs, o => ∃ dx gs, o = .ins C dx gs ∧ Paired (fun (p : Str × U) (q : Str × V) => p.1 = q.1 ∧ RU w p.2 q.2) fs gs
  | .lkd kvs od, o => ∃ ks, o = .frz od (.dK ks) ∧ Paired (fun (p : Key × PyData) (q : Key × V) => p.1 = q.1 ∧ Rp w.F p.2 q.2) kvs ks
  | .dead, _ => True

structure Hold (w : Wd) (M : List Ob) (H : Hp) : Prop where
  len : w.th.length = M.length
  nd : w.th.Nodup
  sub : Same w.F H
  cell : ∀ (n : Nat) (a : Addr) (m : Ob), w.th[n]? = some a → M[n]? = some m → ∃ o, H a = some o ∧ (m = .dead ∨ (w.F a = none ∧ RO w m o))

structure Step (w : Wd) (H : Hp) (w' : Wd) (H' : Hp) : Prop where
  F : Same w.F w'.F
  th : ∃ t, w'.th = w.th ++ t ∧ ∀ a ∈ t, H a = none
  fr : ∀ a o, H a = some o → a ∉ w.th → H' a = some o
  own : ∀ a o, w.F a = none → w'.F a = some o → H a = none ∨ a ∈ w.th

theorem Step.refl (w : Wd) (H : Hp) : Step w H w H := ⟨Same.refl _, ⟨[], by simp, by simp⟩, fun _ _ h _ => h, fun a o h1 h2 => by rw [h1] at h2; cases h2⟩
theorem none_back {H H1 : Hp} {a : Addr} (f : ∀ o, H a = some o → H1 a = some o) (h : H1 a = none) : H a = none := by
  cases e : H a with
  | none => rfl
  | some o => rw [f o e] at h; cases h
theorem Hold.live {w : Wd} {M : List Ob} {H : Hp} (h : Hold w M H) {a : Addr} (ha : a ∈ w.th) : ∃ o, H a = some o := by
  obtain ⟨n, hn⟩ := List.mem_iff_getElem?.mp ha
  have hl : n < M.length := by
    have := (List.getElem?_eq_some_iff.mp hn).1
    rw [h.len] at this
    exact this
  obtain ⟨o, e, _⟩ := h.cell n a M[n] hn (List.getElem?_eq_getElem hl)
  exact ⟨o, e⟩
theorem Step.trans {w w1 w2 : Wd} {H H1 H2 : Hp} {M1 : List Ob} (s : Step w H w1 H1) (hold : Hold w1 M1 H1) (t : Step w1 H1 w2 H2) : Step w H w2 H2 := by
  obtain ⟨u, hu, hu0⟩ := s.th
  obtain ⟨v, hv, hv0⟩ := t.th
  have mem1 : ∀ a, a ∉ w.th → ∀ o, H a = some o → a ∉ w1.th := fun a ha o e h => by
    rw [hu] at h
    rcases List.mem_append.mp h with h | h
    · exact ha h
    · rw [hu0 a h] at e; cases e
  refine ⟨s.F.trans t.F, ⟨u ++ v, by rw [hv, hu, List.append_assoc], fun a ha => ?_⟩, fun a o e n => t.fr a o (s.fr a o e n) (mem1 a n o e), fun a o e1 e2 => ?_⟩
  · rcases List.mem_append.mp ha with h | h
    · exact hu0 a h
    · have h1 := hv0 a h
      refine none_back (fun o e => s.fr a o e fun hm => ?_) h1
      obtain ⟨o, e⟩ := hold.live (a := a) (by rw [hu]; exact List.mem_append_left _ hm)
      rw [h1] at e; cases e
  · cases e : w1.F a with
    | some o1 => exact s.own a o1 e1 e
    | none =>
      rcases t.own a o e e2 with h | h
      · by_cases hm : a ∈ w.th
        · exact .inr hm
        · exact .inl (none_back (fun o e => s.fr a o e hm) h)
      · rw [hu] at h
        rcases List.mem_append.mp h with h | h
        · exact .inr h
        · exact .inl (hu0 a h)
theorem th_mono {l t : List Addr} {n : Nat} {a : Addr} (h : l[n]? = some a) : (l ++ t)[n]? = some a := by
  rw [List.getElem?_append_left (List.getElem?_eq_some_iff.mp h).1]; exact h
/-- what w knows, w' knows -/
structure Grow (w w' : Wd) : Prop where
  F : Same w.F w'.F
  th : ∀ (n : Nat) (a : Addr), w.th[n]? = some a → w'.th[n]? = some a
theorem Step.grow {w w' : Wd} {H H' : Hp} (s : Step w H w' H') : Grow w w' := by
  obtain ⟨t, e, _⟩ := s.th
  exact ⟨s.F, fun n a h => by rw [e]; exact th_mono h⟩
theorem Grow.refl (w : Wd) : Grow w w := ⟨Same.refl _, fun _ _ h => h⟩
theorem RU.grow {w w' : Wd} (g : Grow w w') : ∀ {u : U} {v : V}, RU w u v → RU w' u v
  | .d d, v, h => Rp.mono g.F h
  | .p n, v, ⟨a, h, e⟩ => ⟨a, g.th n a h, e⟩
  | .v x, v, h => h
  | .s K ns, v, ⟨a, e, h⟩ => ⟨a, e, g.F.seq h⟩
theorem RUs.grow {w w' : Wd} (g : Grow w w') {us : List U} {vs : List V} (h : RUs w us vs) : RUs w' us vs := L2.Paired.mapP h fun _ _ r => r.grow g
theorem RO.grow {w w' : Wd} (g : Grow w w') : ∀ {m : Ob} {o : HO}, RO w m o → RO w' m o
  | .lst ds, o, ⟨vs, e, r⟩ => ⟨vs, e, r.mono g.F⟩
  | .lsp us, o, ⟨vs, e, r⟩ => ⟨vs, e, RUs.grow g r⟩
  | .tpp us, o, ⟨vs, e, r⟩ => ⟨vs, e, RUs.grow g r⟩
  | .dic kvs, o, ⟨ks, e, r⟩ => ⟨ks, e, L2.Paired.mapP r fun _ _ q => ⟨q.1, q.2.mono g.F⟩⟩
  | .dip kvs, o, ⟨ks, e, r⟩ => ⟨ks, e, L2.Paired.mapP r fun _ _ q => ⟨q.1, q.2.grow g⟩⟩
  | .dit kvs, o, ⟨ks, e, r⟩ => ⟨ks, e, L2.Paired.mapP r fun _ _ q => ⟨q.1, q.2.mono g.F⟩⟩
  | .ins C fs, o, ⟨dx, gs, e, r⟩ => ⟨dx, gs, e, L2.Paired.mapP r fun _ _ q => ⟨q.1, q.2.grow g⟩⟩
  | .lkd kvs od, o, ⟨ks, e, r⟩ => ⟨ks, e, L2.Paired.mapP r fun _ _ q => ⟨q.1, q.2.mono g.F⟩⟩
  | .dead, o, h => h

/-- new data at p -/
def Wd.put (w : Wd) (p : Addr) (o : HO) : Wd := ⟨upd w.F p o, w.th⟩
theorem Wd.putF_ne {w : Wd} {p a : Addr} {o : HO} (h : a ≠ p) : (w.put p o).F a = w.F a := upd_ne h
theorem Wd.putF {w : Wd} {p : Addr} {o : HO} : (w.put p o).F p = some o := upd_same
section
variable {w : Wd} {M : List Ob} {H : Hp} {p : Addr} {o : HO}
theorem Hold.off (h : Hold w M H) (hp : H p = none) : p ∉ w.th := fun m => by
  obtain ⟨o, e⟩ := h.live m
  rw [hp] at e; cases e
theorem Hold.newF (h : Hold w M H) (hp : H p = none) : w.F p = none := none_back (h.sub p) hp
theorem same_put {F : Hp} (hp : F p = none) : Same F (upd F p o) := fun a u e => by
  rw [upd_ne (ne_of_none e hp)]; exact e
theorem Grow.put (hp : w.F p = none) : Grow w (w.put p o) := ⟨same_put hp, fun _ _ q => q⟩
theorem Hold.put (h : Hold w M H) (hp : H p = none) : Hold (w.put p o) M (upd H p o) := by
  refine ⟨h.len, h.nd, fun a u e => ?_, fun n a m e1 e2 => ?_⟩
  · by_cases ha : a = p
    · subst ha; rw [Wd.putF] at e; rw [upd_same]; exact e
    · rw [Wd.putF_ne ha] at e; rw [upd_ne ha]; exact h.sub a u e
  · obtain ⟨u, e3, e4⟩ := h.cell n a m e1 e2
    have ha : a ≠ p := ne_of_none e3 hp
    refine ⟨u, by rw [upd_ne ha]; exact e3, e4.imp id fun ⟨q1, q2⟩ => ⟨by rw [Wd.putF_ne ha]; exact q1, q2.grow (Grow.put (h.newF hp))⟩⟩
theorem Step.put (h : Hold w M H) (hp : H p = none) : Step w H (w.put p o) (upd H p o) := by
  refine ⟨same_put (h.newF hp), ⟨[], by simp [Wd.put], by simp⟩, fun a u e _ => by rw [upd_ne (ne_of_none e hp)]; exact e, fun a u e1 e2 => ?_⟩
  by_cases ha : a = p
  · subst ha; exact .inl hp
  · rw [Wd.putF_ne ha, e1] at e2; cases e2
theorem Wd.put_at : (w.put p o).F p = some o := upd_same
/-- a new cell -/
def Wd.cell (w : Wd) (p : Addr) : Wd := ⟨w.F, w.th ++ [p]⟩
theorem Grow.cell : Grow w (w.cell p) := ⟨Same.refl _, fun n a h => th_mono h⟩
theorem Hold.cell' (h : Hold w M H) (hp : H p = none) {m : Ob} (r : RO (w.cell p) m o) : Hold (w.cell p) (M ++ [m]) (upd H p o) := by
  refine ⟨by simp [Wd.cell, h.len], ?_, fun a u e => ?_, fun n a m' e1 e2 => ?_⟩
  · refine List.nodup_append.mpr ⟨h.nd, by simp, fun a ha b hb => ?_⟩
    simp at hb; subst hb
    exact fun e => h.off hp (e ▸ ha)
  · rw [upd_ne (ne_of_none (h.sub a u e) hp)]; exact h.sub a u e
  · by_cases hn : n < w.th.length
    · rw [Wd.cell, List.getElem?_append_left hn] at e1
      rw [List.getElem?_append_left (by rw [← h.len]; exact hn)] at e2
      obtain ⟨u, e3, e4⟩ := h.cell n a m' e1 e2
      have ha : a ≠ p := ne_of_none e3 hp
      exact ⟨u, by rw [upd_ne ha]; exact e3, e4.imp id fun ⟨q1, q2⟩ => ⟨q1, q2.grow Grow.cell⟩⟩
    · have hn' : n = w.th.length := by
        have := (List.getElem?_eq_some_iff.mp e1).1
        simp [Wd.cell] at this
        omega
      subst hn'
      simp [Wd.cell] at e1
      rw [h.len] at e2
      simp at e2
      subst e1; subst e2
      exact ⟨o, upd_same, .inr ⟨h.newF hp, r⟩⟩
theorem Step.cell (h : Hold w M H) (hp : H p = none) : Step w H (w.cell p) (upd H p o) := by
  refine ⟨Same.refl _, ⟨[p], rfl, by simp [hp]⟩, fun a u e _ => by rw [upd_ne (ne_of_none e hp)]; exact e, fun a u e1 e2 => ?_⟩
  rw [Wd.cell] at e2; rw [e1] at e2; cases e2
theorem Wd.cell_at (h : Hold w M H) : (w.cell p).th[M.length]? = some p := by
  rw [← h.len]; simp [Wd.cell]
/-- a cell is written -/
theorem Hold.set {n : Nat} {a : Addr} {m m0 : Ob} (h : Hold w M H) (ha : w.th[n]? = some a) (hm : M[n]? = some m0) (h0 : m0 ≠ .dead) (r : RO w m o) : Hold w (M.set n m) (upd H a o) := by
  have hF : w.F a = none := by
    obtain ⟨_, _, e⟩ := h.cell n a m0 ha hm
    rcases e with e | ⟨e, _⟩
    · exact absurd e h0
    · exact e
  refine ⟨by rw [List.length_set]; exact h.len, h.nd, fun b u e => ?_, fun k b m' e1 e2 => ?_⟩
  · rw [upd_ne (ne_of_none e hF)]; exact h.sub b u e
  · by_cases hk : k = n
    · subst hk
      rw [ha] at e1; cases e1
      rw [List.getElem?_set_self (List.getElem?_eq_some_iff.mp hm).1] at e2
      cases e2
      exact ⟨o, upd_same, .inr ⟨hF, r⟩⟩
    · rw [List.getElem?_set_ne (fun q => hk q.symm)] at e2
      obtain ⟨u, e3, e4⟩ := h.cell k b m' e1 e2
      have hb : b ≠ a := fun q => hk (by
        subst q
        have h1 := List.getElem?_eq_some_iff.mp e1
        have h2 := List.getElem?_eq_some_iff.mp ha
        obtain ⟨l1, q1⟩ := h1
        obtain ⟨l2, q2⟩ := h2
        exact (List.getElem_inj h.nd).mp (q1.trans q2.symm))
      exact ⟨u, by rw [upd_ne hb]; exact e3, e4⟩
theorem Step.set {n : Nat} {a : Addr} (ha : w.th[n]? = some a) : Step w H w (upd H a o) := by
  refine ⟨Same.refl _, ⟨[], by simp, by simp⟩, fun b u e hb => ?_, fun b u e1 e2 => by rw [e1] at e2; cases e2⟩
  rw [upd_ne (fun q => hb (by rw [q]; exact List.mem_of_getElem? ha))]; exact e
theorem Hold.frz {n : Nat} {a : Addr} {m0 : Ob} (h : Hold w M H) (ha : w.th[n]? = some a) (hm : M[n]? = some m0) (h0 : m0 ≠ .dead) (ho : H a = some o) : Hold (w.put a o) (M.set n .dead) H := by
  have hF : w.F a = none := by
    obtain ⟨_, _, e⟩ := h.cell n a m0 ha hm
    rcases e with e | ⟨e, _⟩
    · exact absurd e h0
    · exact e
  refine ⟨by rw [List.length_set]; exact h.len, h.nd, fun b u e => ?_, fun k b m' e1 e2 => ?_⟩
  · by_cases hb : b = a
    · subst hb; rw [Wd.putF] at e; rw [ho]; exact e
    · rw [Wd.putF_ne hb] at e; exact h.sub b u e
  · by_cases hk : k = n
    · subst hk
      have e1' : w.th[k]? = some b := e1
      rw [ha] at e1'; cases e1'
      rw [List.getElem?_set_self (List.getElem?_eq_some_iff.mp hm).1] at e2
      cases e2
      exact ⟨o, ho, .inl rfl⟩
    · rw [List.getElem?_set_ne (fun q => hk q.symm)] at e2
      obtain ⟨u, e3, e4⟩ := h.cell k b m' e1 e2
      have hb : b ≠ a := fun q => hk (by
        subst q
        obtain ⟨l1, q1⟩ := List.getElem?_eq_some_iff.mp (show w.th[k]? = some b from e1)
        obtain ⟨l2, q2⟩ := List.getElem?_eq_some_iff.mp ha
        exact (List.getElem_inj h.nd).mp (q1.trans q2.symm))
      exact ⟨u, e3, e4.imp id fun ⟨q1, q2⟩ => ⟨by rw [Wd.putF_ne hb]; exact q1, q2.grow (Grow.put hF)⟩⟩
theorem Step.frz {n : Nat} {a : Addr} {m0 : Ob} (h : Hold w M H) (ha : w.th[n]? = some a) (hm : M[n]? = some m0) (h0 : m0 ≠ .dead) : Step w H (w.put a o) H := by
  have hF : w.F a = none := by
    obtain ⟨_, _, e⟩ := h.cell n a m0 ha hm
    rcases e with e | ⟨e, _⟩
    · exact absurd e h0
    · exact e
  refine ⟨same_put hF, ⟨[], by simp [Wd.put], by simp⟩, fun b u e _ => e, fun b u e1 e2 => ?_⟩
  by_cases hb : b = a
  · subst hb; exact .inr (List.mem_of_getElem? ha)
  · rw [Wd.putF_ne hb, e1] at e2; cases e2
end
end DL

namespace DL
open PySem L2

theorem RU.D {w : Wd} {d : PyData} {v : V} (h : Rp w.F d v) : RU w (.d d) v := h
theorem RU.P {w : Wd} {n : Nat} {a : Addr} (h : w.th[n]? = some a) : RU w (.p n) (.ref a) := ⟨a, h, rfl⟩
theorem RU.V' {w : Wd} {v : V} : RU w (.v v) v := rfl
theorem RO.L {w : Wd} {ds : List PyData} {vs : List V} (h : RpL w.F ds vs) : RO w (.lst ds) (.lst vs) := ⟨vs, rfl, h⟩
theorem RO.LP {w : Wd} {us : List U} {vs : List V} (h : RUs w us vs) : RO w (.lsp us) (.lst vs) := ⟨vs, rfl, h⟩
theorem RO.TP {w : Wd} {us : List U} {vs : List V} (h : RUs w us vs) : RO w (.tpp us) (.tup vs) := ⟨vs, rfl, h⟩
abbrev Rho := List (Option U)
structure Env (w : Wd) (σ : L2.St) (ρ : Rho) : Prop where
  len : σ.length = ρ.length
  at_ : ∀ (i : Nat) (u : U), ρ[i]? = some (some u) → ∃ v, σ[i]? = some (some v) ∧ RU w u v
theorem Env.grow {w w' : Wd} {σ : L2.St} {ρ : Rho} (g : Grow w w') (e : Env w σ ρ) : Env w' σ ρ := ⟨e.len, fun i u h => by
  obtain ⟨v, h1, h2⟩ := e.at_ i u h
  exact ⟨v, h1, h2.grow g⟩⟩
theorem Env.set {w : Wd} {σ : L2.St} {ρ : Rho} {u : U} {v : V} (e : Env w σ ρ) (r : RU w u v) (i : Nat) : Env w (σ.set i (some v)) (ρ.set i (some u)) := by
  refine ⟨by rw [List.length_set, List.length_set]; exact e.len, fun j x h => ?_⟩
  by_cases hj : j = i
  · subst hj
    have hl : j < ρ.length := by
      have := (List.getElem?_eq_some_iff.mp h).1
      rw [List.length_set] at this; exact this
    rw [List.getElem?_set_self hl] at h
    cases h
    exact ⟨v, List.getElem?_set_self (by rw [e.len]; exact hl), r⟩
  · rw [List.getElem?_set_ne (fun q => hj q.symm)] at h
    rw [List.getElem?_set_ne (fun q => hj q.symm)]
    exact e.at_ j x h

/-- what follows a step -/
def Out {α β : Type} (R : Wd → α → β → Prop) (w : Wd) (H : Hp) (Qu : α → List Ob → Prop) (Q : β → Hp → Prop) : Prop :=
  ∀ (a : α) (M' : List Ob) (b : β) (w' : Wd) (H' : Hp), Step w H w' H' → Hold w' M' H' → R w' a b → Qu a M' → Q b H'
def OutN (w : Wd) (H : Hp) (Qu : Rho → List Ob → Prop) (Q : L2.St → Hp → Prop) : Prop :=
  ∀ (ρ' : Rho) (M' : List Ob) (σ' : L2.St) (w' : Wd) (H' : Hp), Step w H w' H' → Hold w' M' H' → Env w' σ' ρ' → Qu ρ' M' → Q σ' H'
abbrev RB (_ : Wd) (a b : Bool) : Prop := a = b
theorem Out.trans {α β : Type} {R : Wd → α → β → Prop} {w w1 : Wd} {H H1 : Hp} {M1 : List Ob} {Qu : α → List Ob → Prop} {Q : β → Hp → Prop} (s : Step w H w1 H1) (h : Hold w1 M1 H1) (o : Out R w H Qu Q) : Out R w1 H1 Qu Q :=
  fun a M' b w' H' s' h' r q => o a M' b w' H' (s.trans h s') h' r q
theorem OutN.trans {w w1 : Wd} {H H1 : Hp} {M1 : List Ob} {Qu : Rho → List Ob → Prop} {Q : L2.St → Hp → Prop} (s : Step w H w1 H1) (h : Hold w1 M1 H1) (o : OutN w H Qu Q) : OutN w1 H1 Qu Q :=
  fun a M' b w' H' s' h' r q => o a M' b w' H' (s.trans h s') h' r q
theorem Out.here {α β : Type} {R : Wd → α → β → Prop} {w : Wd} {H : Hp} {M : List Ob} {Qu : α → List Ob → Prop} {Q : β → Hp → Prop} (o : Out R w H Qu Q) (h : Hold w M H) {a : α} {b : β} (r : R w a b) (q : Qu a M) : Q b H :=
  o a M b w H (Step.refl w H) h r q

abbrev WE := Rho → List Ob → (U → List Ob → Prop) → Prop
abbrev WT := Rho → List Ob → (Bool → List Ob → Prop) → Prop
abbrev WA := Rho → List Ob → (List U → List Ob → Prop) → Prop
structure DEnds where
  nx : Rho → List Ob → Prop
  rt : U → List Ob → Prop
  bk : Rho → List Ob → Prop := fun _ _ => False
  ct : Rho → List Ob → Prop := fun _ _ => False
abbrev WS := DEnds → Rho → List Ob → Prop
structure EndsOk (w : Wd) (H : Hp) (De : DEnds) (E : Ends) : Prop where
  nx : OutN w H De.nx E.nx
  rt : Out RU w H De.rt E.rt
  bk : OutN w H De.bk E.bk
  ct : OutN w H De.ct E.ct
theorem EndsOk.trans {w w1 : Wd} {H H1 : Hp} {M1 : List Ob} {De : DEnds} {E : Ends} (s : Step w H w1 H1) (h : Hold w1 M1 H1) (o : EndsOk w H De E) : EndsOk w1 H1 De E := ⟨o.nx.trans s h, o.rt.trans s h, o.bk.trans s h, o.ct.trans s h⟩

def LE (te : TE) (we : WE) : Prop := ∀ ⦃w : Wd⦄ ⦃M : List Ob⦄ ⦃H : Hp⦄ ⦃σ : L2.St⦄ ⦃ρ : Rho⦄ ⦃Qu : U → List Ob → Prop⦄ ⦃Q : VK⦄, Hold w M H → Env w σ ρ → we ρ M Qu → Out RU w H Qu Q → te σ H Q
def LT (te : TT) (we : WT) : Prop := ∀ ⦃w : Wd⦄ ⦃M : List Ob⦄ ⦃H : Hp⦄ ⦃σ : L2.St⦄ ⦃ρ : Rho⦄ ⦃Qu : Bool → List Ob → Prop⦄ ⦃Q : Bool → Hp → Prop⦄, Hold w M H → Env w σ ρ → we ρ M Qu → Out RB w H Qu Q → te σ H Q
def LA (te : TA) (we : WA) : Prop := ∀ ⦃w : Wd⦄ ⦃M : List Ob⦄ ⦃H : Hp⦄ ⦃σ : L2.St⦄ ⦃ρ : Rho⦄ ⦃Qu : List U → List Ob → Prop⦄ ⦃Q : List V → Hp → Prop⦄, Hold w M H → Env w σ ρ → we ρ M Qu → Out RUs w H Qu Q → te σ H Q
def LS (ts : TS) (ws : WS) : Prop := ∀ ⦃w : Wd⦄ ⦃M : List Ob⦄ ⦃H : Hp⦄ ⦃σ : L2.St⦄ ⦃ρ : Rho⦄ ⦃De : DEnds⦄ ⦃E : Ends⦄, Hold w M H → Env w σ ρ → ws De ρ M → EndsOk w H De E → ts E σ H
abbrev WG := U → Rho → List Ob → (Rho → List Ob → Prop) → Prop
abbrev WGs := List U → Rho → List Ob → (Rho → List Ob → Prop) → Prop
/-- a target; vs: the slots that it may set (a comprehension's own) -/
def LG (g : TG) (wg : WG) : Prop := ∀ ⦃w : Wd⦄ ⦃M : List Ob⦄ ⦃H : Hp⦄ ⦃σ : L2.St⦄ ⦃ρ : Rho⦄ ⦃u : U⦄ ⦃v : V⦄ ⦃Qu : Rho → List Ob → Prop⦄ ⦃Q : L2.St → Hp → Prop⦄, Hold w M H → Env w σ ρ → RU w u v → wg u ρ M Qu → OutN w H Qu Q → g v σ H Q
def LGs (g : TGs) (wg : WGs) : Prop := ∀ ⦃w : Wd⦄ ⦃M : List Ob⦄ ⦃H : Hp⦄ ⦃σ : L2.St⦄ ⦃ρ : Rho⦄ ⦃u : List U⦄ ⦃v : List V⦄ ⦃Qu : Rho → List Ob → Prop⦄ ⦃Q : L2.St → Hp → Prop⦄, Hold w M H → Env w σ ρ → RUs w u v → wg u ρ M Qu → OutN w H Qu Q → g v σ H Q
abbrev R2' := U → U → List Ob → (U → List Ob → Prop) → Prop
def LR (r : R2) (wr : R2') : Prop := ∀ ⦃w : Wd⦄ ⦃M : List Ob⦄ ⦃H : Hp⦄ ⦃x y : U⦄ ⦃vx vy : V⦄ ⦃Qu : U → List Ob → Prop⦄ ⦃Q : VK⦄, Hold w M H → RU w x vx → RU w y vy → wr x y M Qu → Out RU w H Qu Q → r vx vy H Q
def LU (r : V → Hp → VK → Prop) (wr : U → List Ob → (U → List Ob → Prop) → Prop) : Prop := ∀ ⦃w : Wd⦄ ⦃M : List Ob⦄ ⦃H : Hp⦄ ⦃x : U⦄ ⦃vx : V⦄ ⦃Qu : U → List Ob → Prop⦄ ⦃Q : VK⦄, Hold w M H → RU w x vx → wr x M Qu → Out RU w H Qu Q → r vx H Q
def LC (r : List V → Hp → VK → Prop) (wr : List U → List Ob → (U → List Ob → Prop) → Prop) : Prop := ∀ ⦃w : Wd⦄ ⦃M : List Ob⦄ ⦃H : Hp⦄ ⦃x : List U⦄ ⦃vx : List V⦄ ⦃Qu : U → List Ob → Prop⦄ ⦃Q : VK⦄, Hold w M H → RUs w x vx → wr x M Qu → Out RU w H Qu Q → r vx H Q
/-- a method of a built-in type -/
def LM (r : V → List V → Hp → VK → Prop) (wr : U → List U → List Ob → (U → List Ob → Prop) → Prop) : Prop := ∀ ⦃w : Wd⦄ ⦃M : List Ob⦄ ⦃H : Hp⦄ ⦃x : U⦄ ⦃vx : V⦄ ⦃ys : List U⦄ ⦃vs : List V⦄ ⦃Qu : U → List Ob → Prop⦄ ⦃Q : VK⦄, Hold w M H → RU w x vx → RUs w ys vs → wr x ys M Qu → Out RU w H Qu Q → r vx vs H Q

/-! ### expressions -/
section
variable {ta tb tc te : TE} {wa wb wc we : WE} {r : R2} {wr : R2'}
def wVar (i : Nat) : WE := fun ρ M Q => ∃ u, ρ[i]? = some (some u) ∧ Q u M
theorem le_var {i : Nat} : LE (tVar i) (wVar i) := by
  intro w M H σ ρ Qu Q h e ⟨u, h1, h2⟩ o
  obtain ⟨v, h3, h4⟩ := e.at_ i u h1
  exact ⟨v, h3, o.here h h4 h2⟩
def wC (u : U) : WE := fun _ M Q => Q u M
theorem le_c {v : V} {u : U} (k : ∀ w, RU w u v) : LE (tC v) (wC u) := fun _ _ _ _ _ _ _ h _ hq o => o.here h (k _) hq
theorem le_int {i : Int} : LE (tC (.int i)) (wC (.d (.int i))) := le_c fun _ => RU.D (Rp.int i)
theorem le_str {i : Str} : LE (tC (.str i)) (wC (.d (.str i))) := le_c fun _ => RU.D (Rp.str i)
theorem le_bl {i : Bool} : LE (tC (.bl i)) (wC (.d (.bool i))) := le_c fun _ => RU.D (Rp.bl i)
theorem le_non : LE (tC .non) (wC (.d .none)) := le_c fun _ => RU.D (Rp.non)
theorem le_raw {v : V} : LE (tC v) (wC (.v v)) := le_c fun _ => RU.V'
def wOp (wr : R2') (wa wb : WE) : WE := fun ρ M Q => wa ρ M fun x M1 => wb ρ M1 fun y M2 => wr x y M2 Q
theorem le_op (hr : LR r wr) (ha : LE ta wa) (hb : LE tb wb) : LE (tOp r ta tb) (wOp wr wa wb) := fun _ _ _ _ _ _ _ h e hq o =>
  ha h e hq fun _ _ _ _ _ s1 h1 r1 q1 => hb h1 (e.grow s1.grow) q1 fun _ _ _ _ _ s2 h2 r2 q2 => hr h2 (r1.grow s2.grow) r2 q2 ((o.trans s1 h1).trans s2 h2)
def wUn (wr : U → List Ob → (U → List Ob → Prop) → Prop) (wa : WE) : WE := fun ρ M Q => wa ρ M fun x M1 => wr x M1 Q
theorem le_un {r : V → Hp → VK → Prop} {wr : U → List Ob → (U → List Ob → Prop) → Prop} (hr : LU r wr) (ha : LE ta wa) : LE (tUn r ta) (wUn wr wa) := fun _ _ _ _ _ _ _ h e hq o =>
  ha h e hq fun _ _ _ _ _ s1 h1 r1 q1 => hr h1 r1 q1 (o.trans s1 h1)
/-! tests -/
def wB (we : WE) : WT := fun ρ M Q => we ρ M fun x M1 => ∃ b, x = .d (.bool b) ∧ Q b M1
theorem lt_test (ha : LE te we) : LT (tTest te) (wB we) := fun _ _ _ _ _ _ _ h e hq o =>
  ha h e hq fun _ _ _ _ _ s1 h1 r1 q1 => by
    obtain ⟨b, rfl, q⟩ := q1
    cases r1
    exact ⟨b, rfl, (o.trans s1 h1).here h1 rfl q⟩
theorem lt_B (ha : LE te we) : LT (tB te) (wB we) := fun _ _ _ _ _ _ _ h e hq o =>
  ha h e hq fun _ _ _ _ _ s1 h1 r1 q1 => by
    obtain ⟨b, rfl, q⟩ := q1
    cases r1
    exact ⟨b, rfl, (o.trans s1 h1).here h1 rfl q⟩
variable {t1 t2 : TT} {w1 w2 : WT}
def wAnd (w1 w2 : WT) : WT := fun ρ M Q => w1 ρ M fun c M1 => if c = true then w2 ρ M1 Q else Q false M1
def wOr (w1 w2 : WT) : WT := fun ρ M Q => w1 ρ M fun c M1 => if c = true then Q true M1 else w2 ρ M1 Q
def wNot (w1 : WT) : WT := fun ρ M Q => w1 ρ M fun c M1 => Q (!c) M1
theorem lt_and (ha : LT t1 w1) (hb : LT t2 w2) : LT (tAnd t1 t2) (wAnd w1 w2) := fun _ _ _ _ _ _ _ h e hq o =>
  ha h e hq fun b _ c _ _ s1 h1 r1 q1 => by
    have r : b = c := r1
    subst r
    cases b with
    | true => exact hb h1 (e.grow s1.grow) q1 (o.trans s1 h1)
    | false => exact (o.trans s1 h1).here h1 rfl q1
theorem lt_or (ha : LT t1 w1) (hb : LT t2 w2) : LT (tOr t1 t2) (wOr w1 w2) := fun _ _ _ _ _ _ _ h e hq o =>
  ha h e hq fun b _ c _ _ s1 h1 r1 q1 => by
    have r : b = c := r1
    subst r
    cases b with
    | false => exact hb h1 (e.grow s1.grow) q1 (o.trans s1 h1)
    | true => exact (o.trans s1 h1).here h1 rfl q1
theorem lt_not (ha : LT t1 w1) : LT (tNot t1) (wNot w1) := fun _ _ _ _ _ _ _ h e hq o =>
  ha h e hq fun b _ c _ _ s1 h1 r1 q1 => by
    have r : b = c := r1
    subst r
    exact (o.trans s1 h1).here h1 rfl q1
def wYes : WT := fun _ M Q => Q true M
theorem lt_yes : LT tYes wYes := fun _ _ _ _ _ _ _ h _ hq o => o.here h rfl hq
/-! and, or, not as values -/
def wAndV (wa wb : WE) : WE := fun ρ M Q => wa ρ M fun x M1 => ∃ c, x = .d (.bool c) ∧ if c = true then wb ρ M1 Q else Q (.d (.bool false)) M1
def wOrV (wa wb : WE) : WE := fun ρ M Q => wa ρ M fun x M1 => ∃ c, x = .d (.bool c) ∧ if c = true then Q (.d (.bool true)) M1 else wb ρ M1 Q
def wNotV (wa : WE) : WE := fun ρ M Q => wa ρ M fun x M1 => ∃ c, x = .d (.bool c) ∧ Q (.d (.bool (!c))) M1
theorem le_and (ha : LE ta wa) (hb : LE tb wb) : LE (tAndV ta tb) (wAndV wa wb) := fun _ _ _ _ _ _ _ h e hq o =>
  ha h e hq fun _ _ _ _ _ s1 h1 r1 q1 => by
    obtain ⟨b, rfl, q⟩ := q1
    cases r1
    refine ⟨b, rfl, ?_⟩
    cases b with
    | true => exact hb h1 (e.grow s1.grow) q (o.trans s1 h1)
    | false => exact (o.trans s1 h1).here h1 (RU.D (Rp.bl false)) q
theorem le_or (ha : LE ta wa) (hb : LE tb wb) : LE (tOrV ta tb) (wOrV wa wb) := fun _ _ _ _ _ _ _ h e hq o =>
  ha h e hq fun _ _ _ _ _ s1 h1 r1 q1 => by
    obtain ⟨b, rfl, q⟩ := q1
    cases r1
    refine ⟨b, rfl, ?_⟩
    cases b with
    | false => exact hb h1 (e.grow s1.grow) q (o.trans s1 h1)
    | true => exact (o.trans s1 h1).here h1 (RU.D (Rp.bl true)) q
theorem le_not (ha : LE ta wa) : LE (tNotV ta) (wNotV wa) := fun _ _ _ _ _ _ _ h e hq o =>
  ha h e hq fun _ _ _ _ _ s1 h1 r1 q1 => by
    obtain ⟨b, rfl, q⟩ := q1
    cases r1
    exact ⟨b, rfl, (o.trans s1 h1).here h1 (RU.D (Rp.bl _)) q⟩
def wIf (w1 : WT) (wa wb : WE) : WE := fun ρ M Q => w1 ρ M fun c M1 => if c = true then wa ρ M1 Q else wb ρ M1 Q
theorem le_if (ht : LT t1 w1) (ha : LE ta wa) (hb : LE tb wb) : LE (tIf t1 ta tb) (wIf w1 wa wb) := fun _ _ _ _ _ _ _ h e hq o =>
  ht h e hq fun b _ c _ _ s1 h1 r1 q1 => by
    have r : b = c := r1
    subst r
    cases b with
    | true => exact ha h1 (e.grow s1.grow) q1 (o.trans s1 h1)
    | false => exact hb h1 (e.grow s1.grow) q1 (o.trans s1 h1)
/-- a < b < c -/
def wChain (wr wr' : R2') (wa wb wc : WE) : WE := fun ρ M Q => wa ρ M fun x M1 => wb ρ M1 fun y M2 => wr x y M2 fun z M3 => ∃ k, z = .d (.bool k) ∧ (if k = true then wc ρ M3 fun v M4 => wr' y v M4 Q else Q (.d (.bool false)) M3)
theorem le_chain {r' : R2} {wr' : R2'} (hr : LR r wr) (hr' : LR r' wr') (ha : LE ta wa) (hb : LE tb wb) (hc : LE tc wc) : LE (tChain r r' ta tb tc) (wChain wr wr' wa wb wc) := fun _ _ _ _ _ _ _ h e hq o =>
  ha h e hq fun _ _ _ _ _ s1 h1 r1 q1 => hb h1 (e.grow s1.grow) q1 fun _ _ _ _ _ s2 h2 r2 q2 => hr h2 (r1.grow s2.grow) r2 q2 fun _ _ _ _ _ s3 h3 r3 q3 => by
    obtain ⟨b, rfl, q⟩ := q3
    cases r3
    refine ⟨b, rfl, ?_⟩
    have s12 := s1.trans h1 s2
    have s13 := s12.trans h2 s3
    cases b with
    | true => exact hc h3 (e.grow s13.grow) q fun _ _ _ _ _ s4 h4 r4 q4 => hr' h4 (r2.grow (s3.trans h3 s4).grow) r4 q4 (o.trans (s13.trans h3 s4) h4)
    | false => exact (o.trans s13 h3).here h3 (RU.D (Rp.bl false)) q
end
/-! ### arguments, displays, calls -/
section
variable {ta tb te : TE} {wa wb we : WE} {tr : TA} {wr : WA}
def wNil : WA := fun _ M Q => Q [] M
def wCons (wa : WE) (wr : WA) : WA := fun ρ M Q => wa ρ M fun x M1 => wr ρ M1 fun xs M2 => Q (x :: xs) M2
theorem la_nil : LA tNil wNil := fun _ _ _ _ _ _ _ h _ hq o => o.here h .nil hq
theorem la_cons (ha : LE ta wa) (hr : LA tr wr) : LA (tCons ta tr) (wCons wa wr) := fun _ _ _ _ _ _ _ h e hq o =>
  ha h e hq fun _ _ _ _ _ s1 h1 r1 q1 => hr h1 (e.grow s1.grow) q1 fun _ _ _ _ _ s2 h2 r2 q2 => ((o.trans s1 h1).trans s2 h2).here h2 (.cons (RU.grow s2.grow r1) r2) q2
/-- the data of values -/
def dats : List U → Option (List PyData)
  | [] => some []
  | .d d :: us => match dats us with
    | some ds => some (d :: ds)
    | none => none
  | _ :: _ => none
theorem dats_ok {w : Wd} : ∀ {us : List U} {vs : List V} {ds : List PyData}, RUs w us vs → dats us = some ds → RpL w.F ds vs
  | _, _, _, .nil, e => by cases e; exact .nil
  | .d d :: us, _, ds, .cons r t, e => by
    have e' : (match dats us with | some ds => some (d :: ds) | none => none) = some ds := e
    cases q : dats us with
    | none => rw [q] at e'; cases e'
    | some es =>
      rw [q] at e'
      cases e'
      exact .cons r (dats_ok t q)
  | .p _ :: _, _, _, .cons _ _, e => by cases e
  | .v _ :: _, _, _, .cons _ _, e => by cases e
  | .s _ _ :: _, _, _, .cons _ _, e => by cases e
theorem dats_map : ∀ ds : List PyData, dats (ds.map U.d) = some ds
  | [] => rfl
  | d :: ds => by
    show (match dats (ds.map U.d) with | some ds => some (d :: ds) | none => none) = some (d :: ds)
    rw [dats_map ds]
theorem datsR {w : Wd} : ∀ {ds : List PyData} {vs : List V}, RUs w (ds.map U.d) vs → RpL w.F ds vs := fun r => dats_ok r (dats_map _)
theorem RUs.of {w : Wd} : ∀ {ds : List PyData} {vs : List V}, RpL w.F ds vs → RUs w (ds.map U.d) vs
  | _, _, .nil => .nil
  | _, _, .cons h r => .cons h (RUs.of r)
/-- (a, b, ..) of data -/
def wTup (wr : WA) : WE := fun ρ M Q => wr ρ M fun us M1 => ∃ ds, dats us = some ds ∧ ds.length ≤ sizeLine ∧ Q (.d (.tuple ds)) M1
theorem le_tup (hr : LA tr wr) : LE (tTup tr) (wTup wr) := fun _ _ _ _ _ _ _ h e hq o =>
  hr h e hq fun us _ vs _ _ s1 h1 r1 q1 => by
    obtain ⟨ds, e1, hl, q⟩ := q1
    have r := dats_ok r1 e1
    refine ⟨by rw [← r.length]; exact hl, fun p hp => ?_⟩
    exact (o.trans s1 h1) _ _ _ _ _ (Step.put h1 hp) (h1.put hp) (RU.D (.tup Wd.putF (r.mono (same_put (h1.newF hp))))) q
/-- [a, b, ..] of data -/
def wLst (wr : WA) : WE := fun ρ M Q => wr ρ M fun us M1 => ∃ ds, dats us = some ds ∧ ds.length ≤ sizeLine ∧ Q (.d (.list ds)) M1
theorem le_lst (hr : LA tr wr) : LE (tLst tr) (wLst wr) := fun _ _ _ _ _ _ _ h e hq o =>
  hr h e hq fun us _ vs _ _ s1 h1 r1 q1 => by
    obtain ⟨ds, e1, hl, q⟩ := q1
    have r := dats_ok r1 e1
    refine ⟨by rw [← r.length]; exact hl, fun p hp => ?_⟩
    exact (o.trans s1 h1) _ _ _ _ _ (Step.put h1 hp) (h1.put hp) (RU.D (.lst Wd.putF (r.mono (same_put (h1.newF hp))))) q
/-- [a, b, ..]: a new cell of data -/
def wLstC (wr : WA) : WE := fun ρ M Q => wr ρ M fun us M1 => ∃ ds, dats us = some ds ∧ ds.length ≤ sizeLine ∧ Q (.p M1.length) (M1 ++ [.lst ds])
theorem le_lstC (hr : LA tr wr) : LE (tLst tr) (wLstC wr) := fun _ _ _ _ _ _ _ h e hq o =>
  hr h e hq fun us _ vs _ _ s1 h1 r1 q1 => by
    obtain ⟨ds, e1, hl, q⟩ := q1
    have r := dats_ok r1 e1
    refine ⟨by rw [← r.length]; exact hl, fun p hp => ?_⟩
    exact (o.trans s1 h1) _ _ _ _ _ (Step.cell h1 hp) (h1.cell' hp (RO.L r)) (RU.P (Wd.cell_at h1)) q
/-- [a, b, ..], (a, b, ..): a new cell of values -/
def wLstP (wr : WA) : WE := fun ρ M Q => wr ρ M fun us M1 => us.length ≤ sizeLine ∧ Q (.p M1.length) (M1 ++ [.lsp us])
theorem le_lstP (hr : LA tr wr) : LE (tLst tr) (wLstP wr) := fun _ _ _ _ _ _ _ h e hq o =>
  hr h e hq fun us _ vs _ _ s1 h1 r1 q1 => by
    obtain ⟨hl, q⟩ := q1
    refine ⟨by rw [← Paired.length r1]; exact hl, fun p hp => ?_⟩
    exact (o.trans s1 h1) _ _ _ _ _ (Step.cell h1 hp) (h1.cell' hp (RO.LP (RUs.grow Grow.cell r1))) (RU.P (Wd.cell_at h1)) q
def wTupP (wr : WA) : WE := fun ρ M Q => wr ρ M fun us M1 => us.length ≤ sizeLine ∧ Q (.p M1.length) (M1 ++ [.tpp us])
theorem le_tupP (hr : LA tr wr) : LE (tTup tr) (wTupP wr) := fun _ _ _ _ _ _ _ h e hq o =>
  hr h e hq fun us _ vs _ _ s1 h1 r1 q1 => by
    obtain ⟨hl, q⟩ := q1
    refine ⟨by rw [← Paired.length r1]; exact hl, fun p hp => ?_⟩
    exact (o.trans s1 h1) _ _ _ _ _ (Step.cell h1 hp) (h1.cell' hp (RO.TP (RUs.grow Grow.cell r1))) (RU.P (Wd.cell_at h1)) q
def wCB (wc : List U → List Ob → (U → List Ob → Prop) → Prop) (wr : WA) : WE := fun ρ M Q => wr ρ M fun us M1 => wc us M1 Q
theorem le_cb {r : List V → Hp → VK → Prop} {wc : List U → List Ob → (U → List Ob → Prop) → Prop} (hc : LC r wc) (hr : LA tr wr) : LE (tCB r tr) (wCB wc wr) := fun _ _ _ _ _ _ _ h e hq o =>
  hr h e hq fun us _ vs _ _ s1 h1 r1 q1 => hc h1 r1 q1 (o.trans s1 h1)
end
/-! ### statements -/
section
variable {ta tb te : TE} {wa wb we : WE} {t u : TS} {wt wu : WS} {tt : TT} {wq : WT} {g : TG} {wg : WG}
def wNext : WS := fun D ρ M => D.nx ρ M
theorem ls_next : LS tNext wNext := fun _ _ _ _ _ _ _ h e hq o => o.nx _ _ _ _ _ (Step.refl _ _) h e hq
def wSeq (wt wu : WS) : WS := fun D ρ M => wt { D with nx := wu D } ρ M
theorem ls_seq (ht : LS t wt) (hu : LS u wu) : LS (tSeq t u) (wSeq wt wu) := fun _ _ _ _ _ _ _ h e hq o =>
  ht h e hq ⟨fun _ _ _ _ _ s1 h1 e1 q1 => hu h1 e1 q1 (o.trans s1 h1), o.rt, o.bk, o.ct⟩
def wBreak : WS := fun D ρ M => D.bk ρ M
theorem ls_break : LS tBreak wBreak := fun _ _ _ _ _ _ _ h e hq o => o.bk _ _ _ _ _ (Step.refl _ _) h e hq
def wCont : WS := fun D ρ M => D.ct ρ M
theorem ls_cont : LS tCont wCont := fun _ _ _ _ _ _ _ h e hq o => o.ct _ _ _ _ _ (Step.refl _ _) h e hq
def wDrop (we : WE) : WS := fun D ρ M => we ρ M fun _ M1 => D.nx ρ M1
theorem ls_drop (he : LE te we) : LS (tDrop te) (wDrop we) := fun _ _ _ _ _ _ _ h e hq o =>
  he h e hq fun _ _ _ _ _ s1 h1 _ q1 => o.nx _ _ _ _ _ s1 h1 (e.grow s1.grow) q1
def wRet (we : WE) : WS := fun D ρ M => we ρ M D.rt
theorem ls_ret (he : LE te we) : LS (tRet te) (wRet we) := fun _ _ _ _ _ _ _ h e hq o => he h e hq o.rt
def wRetN : WS := fun D _ M => D.rt (.d .none) M
theorem ls_retN : LS tRetN wRetN := fun _ _ _ _ _ _ _ h e hq o => o.rt.here h (RU.D Rp.non) hq
def wIfS (wq : WT) (wt wu : WS) : WS := fun D ρ M => wq ρ M fun b M1 => if b = true then wt D ρ M1 else wu D ρ M1
theorem ls_if (hq : LT tt wq) (ht : LS t wt) (hu : LS u wu) : LS (tIfS tt t u) (wIfS wq wt wu) := fun _ _ _ _ _ _ _ h e q o =>
  hq h e q fun b _ c _ _ s1 h1 r1 q1 => by
    have r : b = c := r1
    subst r
    cases b with
    | true => exact ht h1 (e.grow s1.grow) q1 (o.trans s1 h1)
    | false => exact hu h1 (e.grow s1.grow) q1 (o.trans s1 h1)
/-! targets -/
def wName (i : Nat) : WG := fun u ρ M Q => Q (ρ.set i (some u)) M
theorem lg_name {i : Nat} : LG (gName i) (wName i) := fun _ _ _ _ _ _ _ _ _ h e r hq o => o _ _ _ _ _ (Step.refl _ _) h (e.set r i) hq
def wgNil : WGs := fun us ρ M Q => us = [] ∧ Q ρ M
theorem lgs_nil : LGs gNil wgNil := fun _ _ _ _ _ _ _ _ _ h e r hq o => by
  obtain ⟨rfl, q⟩ := hq
  cases r
  exact ⟨rfl, o _ _ _ _ _ (Step.refl _ _) h e q⟩
def wgCons (wg : WG) (wr : WGs) : WGs := fun us ρ M Q => ∃ u r, us = u :: r ∧ wg u ρ M fun ρ' M' => wr r ρ' M' Q
theorem lgs_cons {gr : TGs} {wr : WGs} (hg : LG g wg) (hr : LGs gr wr) : LGs (gCons g gr) (wgCons wg wr) := fun _ _ _ _ _ _ _ _ _ h e r hq o => by
  obtain ⟨u, us, rfl, q⟩ := hq
  cases r with
  | cons r rs => exact ⟨_, _, rfl, hg h e r q fun _ _ _ _ _ s1 h1 e1 q1 => hr h1 e1 (RUs.grow s1.grow rs) q1 (o.trans s1 h1)⟩
/-- the items of a tuple -/
def tupU (M : List Ob) : U → Option (List U)
  | .d (.tuple ds) => some (ds.map U.d)
  | .p n => match M[n]? with
    | some (.tpp us) => some us
    | _ => none
  | _ => none
theorem tupU_ok {w : Wd} {M : List Ob} {H : Hp} (h : Hold w M H) {u : U} {v : V} (r : RU w u v) {us : List U} (e : tupU M u = some us) : ∃ a vs, v = .ref a ∧ H a = some (.tup vs) ∧ RUs w us vs := by
  cases u with
  | d d =>
    cases d with
    | tuple ds =>
      cases e
      cases r with
      | tup h1 h2 => exact ⟨_, _, rfl, h.sub _ _ h1, RUs.of h2⟩
    | _ => cases e
  | p n =>
    obtain ⟨a, ha, rfl⟩ := r
    have e' : (match M[n]? with | some (.tpp us) => some us | _ => none) = some us := e
    cases hm : M[n]? with
    | none => rw [hm] at e'; cases e'
    | some m =>
      rw [hm] at e'
      cases m with
      | tpp ws =>
        cases e'
        obtain ⟨o, ho, q⟩ := h.cell n a _ ha hm
        rcases q with q | ⟨_, vs, rfl, q⟩
        · cases q
        · exact ⟨a, vs, rfl, ho, q⟩
      | _ => cases e'
  | v x => cases e
  | s K ns => cases e
def wgTup (n : Nat) (wr : WGs) : WG := fun u ρ M Q => ∃ us, tupU M u = some us ∧ us.length = n ∧ wr us ρ M Q
theorem lg_tup {K : PySem.W.Frag} {n : Nat} {gr : TGs} {wr : WGs} (hr : LGs gr wr) : LG (gTup K n gr) (wgTup n wr) := fun _ _ _ _ _ _ _ _ _ h e r hq o => by
  obtain ⟨us, e1, hl, q⟩ := hq
  obtain ⟨a, vs, rfl, ha, rs⟩ := tupU_ok h r e1
  exact ⟨a, vs, rfl, SqT.of ha, by rw [← Paired.length rs]; exact hl, hr h e rs q o⟩
def wAsg (we : WE) (wg : WG) : WS := fun D ρ M => we ρ M fun x M1 => wg x ρ M1 D.nx
theorem ls_asg (he : LE te we) (hg : LG g wg) : LS (tAsg te g) (wAsg we wg) := fun _ _ _ _ _ _ _ h e hq o =>
  he h e hq fun _ _ _ _ _ s1 h1 r1 q1 => hg h1 (e.grow s1.grow) r1 q1 (o.nx.trans s1 h1)
/-! while -/
def wWhile (wq : WT) (wt : WS) : WS := fun D ρ M => ∃ W : Nat → Rho → List Ob → Prop, (∃ m, W m ρ M) ∧ ∀ m ρ M, W m ρ M →
  wq ρ M fun b M1 => if b = true then wt { D with nx := fun ρ' M' => ∃ m', m' < m ∧ W m' ρ' M', ct := fun ρ' M' => ∃ m', m' < m ∧ W m' ρ' M', bk := D.nx } ρ M1 else D.nx ρ M1
theorem ls_while (hq : LT tt wq) (ht : LS t wt) : LS (tWhile tt t) (wWhile wq wt) := fun w M H σ ρ De E h e q o => by
  obtain ⟨W, ⟨m0, w0⟩, turn⟩ := q
  refine ⟨fun m σ' H' => ∃ w' M' ρ', Step w H w' H' ∧ Hold w' M' H' ∧ Env w' σ' ρ' ∧ W m ρ' M', ⟨m0, w, M, ρ, Step.refl _ _, h, e, w0⟩, ?_⟩
  rintro m σ' H' ⟨w', M', ρ', s', h', e', hw⟩
  refine hq h' e' (turn m ρ' M' hw) fun b M1 c w1 H1 s1 h1 r1 q1 => ?_
  have r : b = c := r1
  subst r
  have s2 := s'.trans h' s1
  cases b with
  | true =>
    refine ⟨fun σ2 H2 => ∃ m', m' < m ∧ ∃ w' M' ρ', Step w H w' H2 ∧ Hold w' M' H2 ∧ Env w' σ2 ρ' ∧ W m' ρ' M', fun σ2 H2 k => k, ?_⟩
    refine ht h1 (e'.grow s1.grow) q1 ⟨?_, o.rt.trans s2 h1, o.nx.trans s2 h1, ?_⟩
    · rintro ρ3 M3 σ3 w3 H3 s3 h3 e3 ⟨m', hm, hw'⟩
      exact ⟨m', hm, w3, M3, ρ3, s2.trans h1 s3, h3, e3, hw'⟩
    · rintro ρ3 M3 σ3 w3 H3 s3 h3 e3 ⟨m', hm, hw'⟩
      exact ⟨m', hm, w3, M3, ρ3, s2.trans h1 s3, h3, e3, hw'⟩
  | false => exact o.nx _ _ _ _ _ s2 h1 (e'.grow s1.grow) q1
end
end DL

namespace DL
open PySem L2

/-- what a value reads as -/
def view (M : List Ob) : U → Option PyData
  | .d d => some d
  | .p n => match M[n]? with
    | some (.lst ds) => some (.list ds)
    | _ => none
  | _ => none
/-- a view's value: lists stand in the heap -/
def Vw (F H : Hp) : PyData → V → Prop
  | .list ds, v => ∃ p vs, v = .ref p ∧ H p = some (.lst vs) ∧ RpL F ds vs
  | d, v => Rp F d v
section
variable {w : Wd} {M : List Ob} {H : Hp} {u : U} {v : V} {d : PyData}
theorem vw_of (e : Same w.F H) (h : Rp w.F d v) : Vw w.F H d v := by
  cases h with
  | lst h r => exact ⟨_, _, rfl, e _ _ h, r⟩
  | tup h r => exact .tup h r
  | non => exact .non
  | bl b => exact .bl b
  | int i => exact .int i
  | str x => exact .str x
theorem view_ok (h : Hold w M H) (r : RU w u v) (e : view M u = some d) : Vw w.F H d v := by
  cases u with
  | d d' => cases e; exact vw_of h.sub r
  | p n =>
    obtain ⟨a, ha, rfl⟩ := r
    have e' : (match M[n]? with | some (.lst ds) => some (PyData.list ds) | _ => none) = some d := e
    cases hm : M[n]? with
    | none => rw [hm] at e'; cases e'
    | some m =>
      rw [hm] at e'
      cases m with
      | lst ds =>
        cases e'
        obtain ⟨o, ho, q⟩ := h.cell n a _ ha hm
        rcases q with q | ⟨_, vs, rfl, q⟩
        · cases q
        · exact ⟨a, vs, rfl, ho, q⟩
      | _ => cases e'
  | v x => cases e
  | s K ns => cases e
theorem Vw.dp {K : PySem.W.Frag} (e : Same w.F H) : ∀ {d : PyData} {v : V}, Vw w.F H d v → Dp K H v d
  | .list ds, _, ⟨p, vs, rfl, h, r⟩ => .lst (SqL.of h) (r.dp e)
  | .tuple ds, _, h => Rp.dp e h
  | .none, _, h => Rp.dp e h
  | .bool _, _, h => Rp.dp e h
  | .int _, _, h => Rp.dp e h
  | .str _, _, h => Rp.dp e h
  | .dict _, _, h => Rp.dp e h
theorem vw_int {i : Int} (h : Vw w.F H (.int i) v) : v = .int i := by cases (show Rp w.F (.int i) v from h); rfl
theorem vw_bool {i : Bool} (h : Vw w.F H (.bool i) v) : v = .bl i := by cases (show Rp w.F (.bool i) v from h); rfl
theorem vw_str {i : Str} (h : Vw w.F H (.str i) v) : v = .str i := by cases (show Rp w.F (.str i) v from h); rfl
theorem vw_tup {ds : List PyData} (e : Same w.F H) (h : Vw w.F H (.tuple ds) v) : ∃ p vs, v = .ref p ∧ H p = some (.tup vs) ∧ RpL w.F ds vs ∧ Rp w.F (.tuple ds) (.ref p) := by
  cases (show Rp w.F (.tuple ds) v from h) with
  | tup h1 r1 => exact ⟨_, _, rfl, e _ _ h1, r1, .tup h1 r1⟩
theorem vw_none (h : Vw w.F H .none v) : v = .non := by cases (show Rp w.F .none v from h); rfl
end

/-- an operation on data -/
def wF2 (f : PyData → PyData → Option (PyData × Prop)) : R2' := fun x y M Q => ∃ a b z C, view M x = some a ∧ view M y = some b ∧ f a b = some (z, C) ∧ C ∧ Q (.d z) M
def wF1 (f : PyData → Option (PyData × Prop)) : U → List Ob → (U → List Ob → Prop) → Prop := fun x M Q => ∃ a z C, view M x = some a ∧ f a = some (z, C) ∧ C ∧ Q (.d z) M
/-- scalars: no allocation -/
def Scl (r : R2) (f : PyData → PyData → Option (PyData × Prop)) : Prop := ∀ {w : Wd} {H : Hp} {a b z : PyData} {C : Prop} {x y : V} {Q : VK}, Same w.F H → Vw w.F H a x → Vw w.F H b y → f a b = some (z, C) → C →
  (∀ v w', Rp w'.F z v → Step w H w' H → (∀ M, Hold w M H → Hold w' M H) → Q v H) → (∀ v p o, Rp (w.put p o).F z v → v = .ref p → H p = none → Q v (upd H p o)) → r x y H Q
theorem lr_of {r : R2} {f : PyData → PyData → Option (PyData × Prop)} (s : Scl r f) : LR r (wF2 f) := fun w M H x y vx vy Qu Q h rx ry hq o => by
  obtain ⟨a, b, z, C, ea, eb, ez, hC, q⟩ := hq
  refine s h.sub (view_ok h rx ea) (view_ok h ry eb) ez hC (fun v w' r' s' k => ?_) fun v p ob r' hv hp => ?_
  · exact o _ _ _ _ _ s' (k M h) (RU.D r') q
  · exact o _ _ _ _ _ (Step.put h hp) (h.put hp) (RU.D r') q
/-- int, int -/
def fII (g : Int → Int → PyData) (C : Int → Int → Prop) : PyData → PyData → Option (PyData × Prop)
  | .int i, .int j => some (g i j, C i j)
  | _, _ => none
theorem fII_inv {g : Int → Int → PyData} {C : Int → Int → Prop} {a b z : PyData} {D : Prop} (e : fII g C a b = some (z, D)) : ∃ i j, a = .int i ∧ b = .int j ∧ z = g i j ∧ D = C i j := by
  unfold fII at e
  split at e
  · cases e; exact ⟨_, _, rfl, rfl, rfl, rfl⟩
  · cases e
theorem lr_I {g : Int → Int → V} {g' : Int → Int → PyData} {C : Int → Int → Prop} (k : ∀ F i j, Rp F (g' i j) (g i j)) : LR (rI C g) (wF2 (fII g' C)) := lr_of fun {w H a b z D x y Q} e va vb ez hC q1 q2 => by
  obtain ⟨i, j, rfl, rfl, rfl, rfl⟩ := fII_inv ez
  exact ⟨i, j, vw_int va, vw_int vb, hC, q1 _ w (k _ i j) (Step.refl _ _) fun _ h => h⟩
theorem lr_I0 {g : Int → Int → V} {g' : Int → Int → PyData} (k : ∀ F i j, Rp F (g' i j) (g i j)) : LR (rI0 g) (wF2 (fII g' fun _ _ => True)) := lr_of fun {w H a b z D x y Q} e va vb ez hC q1 q2 => by
  obtain ⟨i, j, rfl, rfl, rfl, rfl⟩ := fII_inv ez
  exact ⟨i, j, vw_int va, vw_int vb, q1 _ w (k _ i j) (Step.refl _ _) fun _ h => h⟩
abbrev wAddI : R2' := wF2 (fII (fun i j => .int (i + j)) fun _ _ => True)
abbrev wSub : R2' := wF2 (fII (fun i j => .int (i - j)) fun _ _ => True)
abbrev wMul : R2' := wF2 (fII (fun i j => .int (i * j)) CMul)
abbrev wMod : R2' := wF2 (fII (fun i j => .int (i % j)) fun _ j => 0 < j)
abbrev wDivW : R2' := wF2 (fII (fun i j => .int (i / j)) CDivW)
abbrev wPow : R2' := wF2 (fII (fun i j => .int (i ^ j.toNat)) CPow)
abbrev wLt : R2' := wF2 (fII (fun i j => .bool (decide (i < j))) fun _ _ => True)
abbrev wLe : R2' := wF2 (fII (fun i j => .bool (decide (i ≤ j))) fun _ _ => True)
abbrev wGt : R2' := wF2 (fII (fun i j => .bool (decide (j < i))) fun _ _ => True)
abbrev wGe : R2' := wF2 (fII (fun i j => .bool (decide (j ≤ i))) fun _ _ => True)
theorem lr_addI : LR (rI0 fun i j => .int (i + j)) wAddI := lr_I0 fun _ i j => .int _
theorem lr_sub : LR (rI0 fun i j => .int (i - j)) wSub := lr_I0 fun _ i j => .int _
theorem lr_mul : LR (rI CMul fun i j => .int (i * j)) wMul := lr_I fun _ i j => .int _
theorem lr_mod : LR (rI (fun _ j => 0 < j) fun i j => .int (i % j)) wMod := lr_I fun _ i j => .int _
theorem lr_divW : LR (rI CDivW fun i j => .int (i / j)) wDivW := lr_I fun _ i j => .int _
theorem lr_pow : LR (rI CPow fun i j => .int (i ^ j.toNat)) wPow := lr_I fun _ i j => .int _
theorem lr_lt : LR (rI0 fun i j => .bl (decide (i < j))) wLt := lr_I0 fun _ i j => .bl _
theorem lr_le : LR (rI0 fun i j => .bl (decide (i ≤ j))) wLe := lr_I0 fun _ i j => .bl _
theorem lr_gt : LR (rI0 fun i j => .bl (decide (j < i))) wGt := lr_I0 fun _ i j => .bl _
theorem lr_ge : LR (rI0 fun i j => .bl (decide (j ≤ i))) wGe := lr_I0 fun _ i j => .bl _

/-- + of ints, texts, lists, tuples -/
abbrev rStrAdd : R2 := fun x y H Q => ∃ i j, x = .str i ∧ y = .str j ∧ i.length + j.length ≤ sizeLine ∧ Q (.str (i ++ j)) H
def rAddAll (K : PySem.W.Frag) : R2 := fun x y H Q => (rI0 (fun i j => .int (i + j)) x y H Q ∨ rStrAdd x y H Q) ∨ (rCat x y H Q ∨ rCatA K x y H Q)
theorem op_addAll {X : Cx} : OpR X (binaryOp .Add) (rAddAll X.K) := OpR.or (OpR.or op_add op_add_str) (OpR.or op_cat op_catA)
def fAdd : PyData → PyData → Option (PyData × Prop)
  | .int i, .int j => some (.int (i + j), True)
  | .str i, .str j => some (.str (i ++ j), i.length + j.length ≤ sizeLine)
  | .list i, .list j => some (.list (i ++ j), i.length + j.length ≤ sizeLine)
  | .tuple i, .tuple j => some (.tuple (i ++ j), i.length + j.length ≤ sizeLine)
  | _, _ => none
abbrev wAdd : R2' := wF2 fAdd
theorem nil_of_len {α β : Type} {xs : List α} {ys : List β} (h : xs.length = ys.length) (e : ys = []) : xs = [] := by
  subst e; exact List.length_eq_zero_iff.mp (by simpa using h)
theorem lr_add {K : PySem.W.Frag} : LR (rAddAll K) wAdd := lr_of fun {w H a b z D x y Q} e va vb ez hC q1 q2 => by
  unfold fAdd at ez
  split at ez
  · cases ez
    exact .inl (.inl ⟨_, _, vw_int va, vw_int vb, q1 _ w (.int _) (Step.refl _ _) fun _ h => h⟩)
  · cases ez
    exact .inl (.inr ⟨_, _, vw_str va, vw_str vb, hC, q1 _ w (.str _) (Step.refl _ _) fun _ h => h⟩)
  · cases ez
    obtain ⟨p, vs, rfl, hp, r1⟩ := va
    obtain ⟨q, ws, rfl, hq, r2⟩ := vb
    refine .inr (.inl ⟨p, q, vs, ws, rfl, rfl, hp, hq, by rw [← r1.length, ← r2.length]; exact hC, fun l hl => ?_⟩)
    have hF : w.F l = none := none_back (e l) hl
    exact q2 _ l _ (.lst Wd.putF ((r1.append r2).mono (same_put hF))) rfl hl
  · cases ez
    obtain ⟨p, vs, rfl, hp, r1, k1⟩ := vw_tup e va
    obtain ⟨q, ws, rfl, hq, r2, k2⟩ := vw_tup e vb
    refine .inr (.inr ⟨p, q, vs, ws, rfl, rfl, SqT.of hp, SqT.of hq, by rw [← r1.length, ← r2.length]; exact hC, fun e1 => ?_, fun _ e1 => ?_, fun _ _ l hl => ?_⟩)
    · have e2 := nil_of_len r1.length e1
      subst e2
      exact q1 _ w (by simpa using k2) (Step.refl _ _) fun _ h => h
    · have e2 := nil_of_len r2.length e1
      subst e2
      exact q1 _ w (by simpa using k1) (Step.refl _ _) fun _ h => h
    · have hF : w.F l = none := none_back (e l) hl
      exact q2 _ l _ (.tup Wd.putF ((r1.append r2).mono (same_put hF))) rfl hl
  · cases ez
/-- list * int, int * int -/
def rMulAll : R2 := fun x y H Q => rI CMul (fun i j => .int (i * j)) x y H Q ∨ rRep x y H Q
theorem op_mulAll {X : Cx} : OpR X (binaryOp .Mult) rMulAll := OpR.or op_mul op_rep
def fMul : PyData → PyData → Option (PyData × Prop)
  | .int i, .int j => some (.int (i * j), CMul i j)
  | .list i, .int j => some (.list (List.replicate j.toNat i).flatten, -(2 ^ 63) ≤ j ∧ j < 2 ^ 63 ∧ i.length * j.toNat ≤ sizeLine)
  | _, _ => none
abbrev wMulA : R2' := wF2 fMul
theorem lr_mulA : LR rMulAll wMulA := lr_of fun {w H a b z D x y Q} e va vb ez hC q1 q2 => by
  unfold fMul at ez
  split at ez
  · cases ez
    exact .inl ⟨_, _, vw_int va, vw_int vb, hC, q1 _ w (.int _) (Step.refl _ _) fun _ h => h⟩
  · cases ez
    obtain ⟨p, vs, rfl, hp, r1⟩ := va
    refine .inr ⟨p, _, vs, rfl, vw_int vb, hp, hC.1, hC.2.1, by rw [← r1.length]; exact hC.2.2, fun l hl => ?_⟩
    have hF : w.F l = none := none_back (e l) hl
    exact q2 _ l _ (.lst Wd.putF ((r1.flatRep _).mono (same_put hF))) rfl hl
  · cases ez
/-- ==, != of data -/
def scl2 : PyData → PyData → Bool
  | .none, .none | .none, .int _ | .int _, .none | .none, .str _ | .str _, .none | .none, .bool _ | .bool _, .none => true
  | .int _, .int _ | .bool _, .bool _ | .str _, .str _ => true
  | _, _ => false
def eqOk (a b : PyData) : Prop := scl2 a b = true ∨ (SeqAt.shaped a = true ∧ SeqAt.shaped b = true)
def rEqAll (K : PySem.W.Frag) : R2 := fun x y H Q => rEq x y H Q ∨ rEqD K x y H Q
def rNeAll (K : PySem.W.Frag) : R2 := fun x y H Q => rNe x y H Q ∨ rNeD K x y H Q
theorem op_eqAll {X : Cx} (hu : X.A.units + 64 < cLine) : OpR X (compareOp .Eq) (rEqAll X.K) := OpR.or op_eq (op_eqD hu)
theorem op_neAll {X : Cx} (hu : X.A.units + 64 < cLine) : OpR X (compareOp .NotEq) (rNeAll X.K) := OpR.or op_ne (op_neD hu)
def fEq (a b : PyData) : Option (PyData × Prop) := some (.bool (PyData.eqv a b), eqOk a b)
def fNe (a b : PyData) : Option (PyData × Prop) := some (.bool (!PyData.eqv a b), eqOk a b)
abbrev wEq : R2' := wF2 fEq
abbrev wNe : R2' := wF2 fNe
theorem scl_ok {w : Wd} {H : Hp} {a b : PyData} {x y : V} (va : Vw w.F H a x) (vb : Vw w.F H b y) (h : scl2 a b = true) : scal x y = true ∧ decide (x = y) = PyData.eqv a b := by
  unfold scl2 at h
  split at h <;> first
    | (cases (show Rp w.F _ x from va); cases (show Rp w.F _ y from vb); refine ⟨rfl, ?_⟩; first | rfl | (simp only [PyData.eqv]; rw [Bool.eq_iff_iff, decide_eq_true_iff, beq_iff_eq]; simp) | (simp [PyData.eqv]))
    | cases h
theorem lr_eq {K : PySem.W.Frag} : LR (rEqAll K) wEq := lr_of fun {w H a b z D x y Q} e va vb ez hC q1 q2 => by
  cases ez
  rcases hC with hC | hC
  · obtain ⟨h1, h2⟩ := scl_ok va vb hC
    refine .inl ⟨h1, ?_⟩
    rw [h2]
    exact q1 _ w (.bl _) (Step.refl _ _) fun _ h => h
  · exact .inr ⟨a, b, va.dp e, vb.dp e, hC.1, hC.2, q1 _ w (.bl _) (Step.refl _ _) fun _ h => h⟩
theorem lr_ne {K : PySem.W.Frag} : LR (rNeAll K) wNe := lr_of fun {w H a b z D x y Q} e va vb ez hC q1 q2 => by
  cases ez
  rcases hC with hC | hC
  · obtain ⟨h1, h2⟩ := scl_ok va vb hC
    refine .inl ⟨h1, ?_⟩
    rw [h2]
    exact q1 _ w (.bl _) (Step.refl _ _) fun _ h => h
  · exact .inr ⟨a, b, va.dp e, vb.dp e, hC.1, hC.2, q1 _ w (.bl _) (Step.refl _ _) fun _ h => h⟩
end DL

namespace DL
open PySem L2

/-! ### items and slices -/
theorem atI_rep {F : Hp} {ds : List PyData} {vs : List V} (r : RpL F ds vs) {i : Int} {d : PyData} (h : atI ds i = some d) : ∃ v, atI vs i = some v ∧ Rp F d v := by
  unfold atI at h ⊢
  rw [r.length] at h
  cases e : ixN vs.length i with
  | none => rw [e] at h; cases h
  | some j => rw [e] at h; exact r.get h
def ixD : PyData → Int → PyData → Prop
  | .list ds, i, d => atI ds i = some d
  | .tuple ds, i, d => atI ds i = some d
  | .str z, i, d => ∃ c, z.length ≤ sizeLine ∧ atI z.cps.toList i = some c ∧ d = .str ⟨#[c]⟩
  | _, _, _ => False
def wIx : R2' := fun x y M Q => ∃ a i d, view M x = some a ∧ view M y = some (.int i) ∧ ixD a i d ∧ Q (.d d) M
theorem ix_all {X : Cx} : IxR X (rIx X.K) := IxR.or ix_list (IxR.or ix_tup ix_str)
theorem lr_ix {K : PySem.W.Frag} : LR (rIx K) wIx := fun w M H x y vx vy Qu Q h rx ry hq o => by
  obtain ⟨a, i, d, ea, ei, hx, q⟩ := hq
  have va := view_ok h rx ea
  have vi := vw_int (view_ok h ry ei)
  cases a with
  | list ds =>
    obtain ⟨p, vs, rfl, hp, r⟩ := va
    obtain ⟨v, h1, h2⟩ := atI_rep r hx
    exact .inl ⟨p, vs, i, v, rfl, vi, SqL.of hp, h1, o.here h (RU.D h2) q⟩
  | tuple ds =>
    obtain ⟨p, vs, rfl, hp, r, _⟩ := vw_tup h.sub va
    obtain ⟨v, h1, h2⟩ := atI_rep r hx
    exact .inr (.inl ⟨p, vs, i, v, rfl, vi, SqT.of hp, h1, o.here h (RU.D h2) q⟩)
  | str z =>
    obtain ⟨c, hz, h1, rfl⟩ := hx
    exact .inr (.inr ⟨z, i, c, vw_str va, vi, hz, h1, o.here h (RU.D (.str _)) q⟩)
  | _ => exact hx.elim
/-- an item of a cell of values -/
def wIxP : R2' := fun x y M Q => ∃ n us i u, x = .p n ∧ (M[n]? = some (.lsp us) ∨ M[n]? = some (.tpp us)) ∧ view M y = some (.int i) ∧ atI us i = some u ∧ Q u M
theorem atI_repU {w : Wd} {us : List U} {vs : List V} (r : RUs w us vs) {i : Int} {d : U} (h : atI us i = some d) : ∃ v, atI vs i = some v ∧ RU w d v := by
  have get : ∀ {us : List U} {vs : List V}, RUs w us vs → ∀ {j : Nat} {d : U}, us[j]? = some d → ∃ v, vs[j]? = some v ∧ RU w d v := by
    intro us vs r
    induction r with
    | nil => intro j d h; simp at h
    | cons h1 _ ih =>
      intro j d h
      cases j with
      | zero => simp at h; subst h; exact ⟨_, rfl, h1⟩
      | succ j => simpa using ih (by simpa using h)
  unfold atI at h ⊢
  rw [Paired.length r] at h
  cases e : ixN vs.length i with
  | none => rw [e] at h; cases h
  | some j => rw [e] at h; exact get r h
theorem lr_ixP {K : PySem.W.Frag} : LR (rIx K) wIxP := fun w M H x y vx vy Qu Q h rx ry hq o => by
  obtain ⟨n, us, i, u, rfl, hm, ei, hx, q⟩ := hq
  have vi := vw_int (view_ok h ry ei)
  obtain ⟨a, ha, rfl⟩ := rx
  rcases hm with hm | hm
  · obtain ⟨ob, ho, e⟩ := h.cell n a _ ha hm
    rcases e with e | ⟨_, vs, rfl, r⟩
    · cases e
    · obtain ⟨v, h1, h2⟩ := atI_repU r hx
      exact .inl ⟨a, vs, i, v, rfl, vi, SqL.of ho, h1, o.here h h2 q⟩
  · obtain ⟨ob, ho, e⟩ := h.cell n a _ ha hm
    rcases e with e | ⟨_, vs, rfl, r⟩
    · cases e
    · obtain ⟨v, h1, h2⟩ := atI_repU r hx
      exact .inr (.inl ⟨a, vs, i, v, rfl, vi, SqT.of ho, h1, o.here h h2 q⟩)
abbrev WO := Rho → List Ob → (Option Int → List Ob → Prop) → Prop
def LO (te : TO) (we : WO) : Prop := ∀ ⦃w : Wd⦄ ⦃M : List Ob⦄ ⦃H : Hp⦄ ⦃σ : L2.St⦄ ⦃ρ : Rho⦄ ⦃Qu : Option Int → List Ob → Prop⦄ ⦃Q : Option Int → Hp → Prop⦄, Hold w M H → Env w σ ρ → we ρ M Qu → Out (fun _ a b => a = b) w H Qu Q → te σ H Q
def wNoPart : WO := fun _ M Q => Q none M
def wPart (we : WE) : WO := fun ρ M Q => we ρ M fun x M1 => ∃ i, view M1 x = some (.int i) ∧ Q (some i) M1
theorem lo_none : LO tNoPart wNoPart := fun _ _ _ _ _ _ _ h _ hq o => o.here h rfl hq
theorem lo_some {te : TE} {we : WE} (he : LE te we) : LO (tPart te) (wPart we) := fun _ _ _ _ _ _ _ h e hq o =>
  he h e hq fun _ _ _ _ _ s1 h1 r1 q1 => by
    obtain ⟨i, e1, q⟩ := q1
    exact ⟨i, vw_int (view_ok h1 r1 e1), (o.trans s1 h1).here h1 rfl q⟩
def cutD {α : Type} (xs : List α) (lo hi : Option Int) : List α := List.take (HT.sIx xs.length xs.length hi - HT.sIx xs.length 0 lo) (List.drop (HT.sIx xs.length 0 lo) xs)
theorem cut_rep {F : Hp} {ds : List PyData} {vs : List V} (r : RpL F ds vs) (lo hi : Option Int) : RpL F (cutD ds lo hi) (cutV vs lo hi) := by
  unfold cutD cutV
  rw [r.length]
  exact (r.drop _).take _
def fCut : PyData → Option Int → Option Int → Option (PyData × Prop)
  | .list ds, lo, hi => some (.list (cutD ds lo hi), True)
  | .tuple ds, lo, hi => some (.tuple (cutD ds lo hi), True)
  | .str z, lo, hi => some (.str (cutS z lo hi), z.length ≤ sizeLine)
  | _, _, _ => none
def rSlAll (K : PySem.W.Frag) : V → Option Int → Option Int → Hp → VK → Prop := fun x lo hi H Q => rSlL K x lo hi H Q ∨ (rSlA K x lo hi H Q ∨ rSlS x lo hi H Q)
theorem sl_all {X : Cx} : SlR X (rSlAll X.K) := SlR.or sl_list (SlR.or sl_tupA sl_str)
def wSl (we : WE) (wl wh : WO) : WE := fun ρ M Q => we ρ M fun x M1 => wl ρ M1 fun lo M2 => wh ρ M2 fun hi M3 => ∃ a z C, view M3 x = some a ∧ fCut a lo hi = some (z, C) ∧ C ∧ Q (.d z) M3
theorem le_sl {K : PySem.W.Frag} {te : TE} {tl th : TO} {we : WE} {wl wh : WO} (he : LE te we) (hl : LO tl wl) (hh : LO th wh) : LE (tSl (rSlAll K) te tl th) (wSl we wl wh) := fun _ _ _ _ _ _ _ h e hq o =>
  he h e hq fun x _ v _ _ s1 h1 r1 q1 => hl h1 (e.grow s1.grow) q1 fun lo _ lo' _ _ s2 h2 e2 q2 => hh h2 (e.grow (s1.trans h1 s2).grow) q2 fun hi M3 hi' w3 H3 s3 h3 e3 q3 => by
    have e2' : lo = lo' := e2
    have e3' : hi = hi' := e3
    subst e2' e3'
    obtain ⟨a, z, C, ea, ez, hC, q⟩ := q3
    have s13 := (s1.trans h1 s2).trans h2 s3
    have va := view_ok h3 (r1.grow (s2.trans h2 s3).grow) ea
    have o3 := o.trans s13 h3
    unfold fCut at ez
    split at ez
    · cases ez
      obtain ⟨p, vs, rfl, hp, r⟩ := va
      refine .inl ⟨p, vs, rfl, SqL.of hp, fun l hl => ?_⟩
      exact o3 _ _ _ _ _ (Step.put h3 hl) (h3.put hl) (RU.D (.lst Wd.putF ((cut_rep r _ _).mono (same_put (h3.newF hl))))) q
    · cases ez
      obtain ⟨p, vs, rfl, hp, r, k⟩ := vw_tup h3.sub va
      refine .inr (.inl ⟨p, vs, rfl, SqT.of hp, fun hw => ?_, fun _ l hl => ?_⟩)
      · have hd : ∀ ds : List PyData, ds.length = vs.length → cutD ds lo hi = ds := fun ds hd => by
          unfold cutD
          rw [hd, hw.1, hw.2, List.drop_zero, Nat.sub_zero, ← hd, List.take_length]
        rw [hd _ r.length] at q
        exact o3.here h3 (RU.D k) q
      · exact o3 _ _ _ _ _ (Step.put h3 hl) (h3.put hl) (RU.D (.tup Wd.putF ((cut_rep r _ _).mono (same_put (h3.newF hl))))) q
    · cases ez
      exact .inr (.inr ⟨_, vw_str va, hC, o3.here h3 (RU.D (.str _)) q⟩)
    · cases ez
/-! ### in, not in -/
abbrev rSign : R2 := fun x y H Q => ∃ (c : Nat) (z : Str), x = .str ⟨#[c]⟩ ∧ y = .str z ∧ Q (.bl (decide (c ∈ z.cps.toList))) H
abbrev rNSign : R2 := fun x y H Q => ∃ (c : Nat) (z : Str), x = .str ⟨#[c]⟩ ∧ y = .str z ∧ Q (.bl (!decide (c ∈ z.cps.toList))) H
def rInAll (K : PySem.W.Frag) : R2 := fun x y H Q => rInD K x y H Q ∨ (rIn K false x y H Q ∨ rSign x y H Q)
def rNotInAll (K : PySem.W.Frag) : R2 := fun x y H Q => rNotInD K x y H Q ∨ (rIn K true x y H Q ∨ rNSign x y H Q)
theorem op_inAll {X : Cx} (hu : X.A.units + 65 < cLine) : OpR X (compareOp .In) (rInAll X.K) := OpR.or (op_inD hu) (OpR.or op_in_seq op_in_sign)
theorem op_notInAll {X : Cx} (hu : X.A.units + 65 < cLine) : OpR X (compareOp .NotIn) (rNotInAll X.K) := OpR.or (op_notInD hu) (OpR.or op_notIn_seq op_notIn_sign)
def flatD : PyData → Bool
  | .none | .bool _ | .int _ | .str _ => true
  | _ => false
/-- x in y -/
def fIn (x : PyData) : PyData → Option (Bool × Prop)
  | .list ds => some (ds.any fun z => PyData.eqv z x, SeqAt.shaped x = true ∧ SeqAt.shaped (.list ds) = true)
  | .tuple ds => some (ds.any fun z => PyData.eqv z x, flatD x = true ∧ ds.all flatD = true)
  | .str z => match x with
    | .str t => match t.cps.toList with
      | [c] => some (decide (c ∈ z.cps.toList), True)
      | _ => none
    | _ => none
  | _ => none
theorem sign_eq {t : Str} {c : Nat} (h : t.cps.toList = [c]) : t = ⟨#[c]⟩ := by
  obtain ⟨⟨l⟩⟩ := t
  have h' : l = [c] := h
  subst h'; rfl
def wIn : R2' := fun x y M Q => ∃ a b z C, view M x = some a ∧ view M y = some b ∧ fIn a b = some (z, C) ∧ C ∧ Q (.d (.bool z)) M
def wNotIn : R2' := fun x y M Q => ∃ a b z C, view M x = some a ∧ view M y = some b ∧ fIn a b = some (z, C) ∧ C ∧ Q (.d (.bool !z)) M
theorem flat_rep {F : Hp} {d : PyData} {v : V} (r : Rp F d v) (h : flatD d = true) : flatV v = true ∧ ∀ e y, Rp F e y → flatD e = true → eqV v y = PyData.eqv d e := by
  cases r <;> first
    | (refine ⟨rfl, fun e y r2 h2 => ?_⟩
       cases r2 <;> first | (simp [eqV, PyData.eqv]; done) | (simp [eqV, PyData.eqv]; (repeat' split) <;> simp_all; done) | cases h2)
    | cases h
theorem flat_all {F : Hp} : ∀ {ds : List PyData} {vs : List V}, RpL F ds vs → ds.all flatD = true → vs.all flatV = true ∧ ∀ e y, Rp F e y → flatD e = true → inV y vs = ds.any fun z => PyData.eqv z e
  | _, _, .nil, _ => ⟨rfl, fun _ _ _ _ => rfl⟩
  | d :: ds, v :: vs, .cons r t, h => by
    rw [List.all_cons, Bool.and_eq_true] at h
    obtain ⟨h1, h2⟩ := flat_rep r h.1
    obtain ⟨h3, h4⟩ := flat_all t h.2
    refine ⟨by rw [List.all_cons, h1, h3]; rfl, fun e y r2 h5 => ?_⟩
    show (eqV v y || inV y vs) = _
    rw [h2 e y r2 h5, h4 e y r2 h5]; rfl
theorem in_ok {K : PySem.W.Frag} {w : Wd} {H : Hp} (e : Same w.F H) {a b : PyData} {x y : V} {z : Bool} {C : Prop} {Q : VK} (va : Vw w.F H a x) (vb : Vw w.F H b y) (ez : fIn a b = some (z, C)) (hC : C) :
    (Q (.bl z) H → rInAll K x y H Q) ∧ (Q (.bl !z) H → rNotInAll K x y H Q) := by
  cases b with
  | list ds =>
    cases ez
    exact ⟨fun q => .inl ⟨a, ds, va.dp e, vb.dp e, hC.1, hC.2, q⟩, fun q => .inl ⟨a, ds, va.dp e, vb.dp e, hC.1, hC.2, q⟩⟩
  | tuple ds =>
    cases ez
    obtain ⟨p, vs, rfl, hp, r, _⟩ := vw_tup e vb
    have ra : Rp w.F a x := by cases a <;> first | exact va | (exact absurd hC.1 (by decide)) | (cases hC.1)
    obtain ⟨h1, _⟩ := flat_rep ra hC.1
    obtain ⟨h2, h3⟩ := flat_all r hC.2
    have h4 := h3 a x ra hC.1
    refine ⟨fun q => .inr (.inl ⟨p, vs, rfl, .inr (SqT.of hp), h1, h2, ?_⟩), fun q => .inr (.inl ⟨p, vs, rfl, .inr (SqT.of hp), h1, h2, ?_⟩)⟩
    · show Q (.bl (inV x vs)) H
      rw [h4]; exact q
    · show Q (.bl (!inV x vs)) H
      rw [h4]; exact q
  | str s =>
    cases a with
    | str t =>
      have ez' : (match t.cps.toList with | [c] => some (decide (c ∈ s.cps.toList), True) | _ => none) = some (z, C) := ez
      split at ez'
      · rename_i c heq
        cases ez'
        have e3 := sign_eq heq
        subst e3
        exact ⟨fun q => .inr (.inr ⟨_, _, vw_str va, vw_str vb, q⟩), fun q => .inr (.inr ⟨_, _, vw_str va, vw_str vb, q⟩)⟩
      · cases ez'
    | _ => simp [fIn] at ez
  | _ => cases ez
theorem lr_in {K : PySem.W.Frag} : LR (rInAll K) wIn := fun w M H x y vx vy Qu Q h rx ry hq o => by
  obtain ⟨a, b, z, C, ea, eb, ez, hC, q⟩ := hq
  exact (in_ok h.sub (view_ok h rx ea) (view_ok h ry eb) ez hC).1 (o.here h (RU.D (.bl _)) q)
theorem lr_notIn {K : PySem.W.Frag} : LR (rNotInAll K) wNotIn := fun w M H x y vx vy Qu Q h rx ry hq o => by
  obtain ⟨a, b, z, C, ea, eb, ez, hC, q⟩ := hq
  exact (in_ok h.sub (view_ok h rx ea) (view_ok h ry eb) ez hC).2 (o.here h (RU.D (.bl _)) q)
/-! ### is None, is not None -/
abbrev rIsNon : R2 := fun x y H Q => y = .non ∧ Q (.bl (decide (x = .non))) H
abbrev rNotNon : R2 := fun x y H Q => y = .non ∧ Q (.bl (!decide (x = .non))) H
def isNoneU : U → Option Bool
  | .d .none => some true
  | .d _ => some false
  | .p _ => some false
  | .v _ => none
  | .s _ _ => some false
theorem isNone_ok {w : Wd} {x : U} {v : V} {b : Bool} (r : RU w x v) (e : isNoneU x = some b) : decide (v = .non) = b := by
  cases x with
  | d d =>
    cases d <;> cases e <;> cases (show Rp w.F _ v from r) <;> rfl
  | p n =>
    obtain ⟨a, _, rfl⟩ := r
    cases e; rfl
  | v x => cases e
  | s K ns =>
    obtain ⟨a, rfl, _⟩ := r
    cases e; rfl
def wIsN : R2' := fun x y M Q => ∃ b, y = .d .none ∧ isNoneU x = some b ∧ Q (.d (.bool b)) M
def wNotN : R2' := fun x y M Q => ∃ b, y = .d .none ∧ isNoneU x = some b ∧ Q (.d (.bool !b)) M
theorem lr_isN : LR rIsNon wIsN := fun w M H x y vx vy Qu Q h rx ry hq o => by
  obtain ⟨b, rfl, e, q⟩ := hq
  cases (show Rp w.F .none vy from ry)
  exact ⟨rfl, by rw [isNone_ok rx e]; exact o.here h (RU.D (.bl _)) q⟩
theorem lr_notN : LR rNotNon wNotN := fun w M H x y vx vy Qu Q h rx ry hq o => by
  obtain ⟨b, rfl, e, q⟩ := hq
  cases (show Rp w.F .none vy from ry)
  exact ⟨rfl, by rw [isNone_ok rx e]; exact o.here h (RU.D (.bl _)) q⟩
/-- is, is not of truths -/
abbrev rIsBl : R2 := rIsB
def wIsB : R2' := fun x y M Q => ∃ a b, x = .d (.bool a) ∧ y = .d (.bool b) ∧ Q (.d (.bool (decide (a = b)))) M
def wNotB : R2' := fun x y M Q => ∃ a b, x = .d (.bool a) ∧ y = .d (.bool b) ∧ Q (.d (.bool !decide (a = b))) M
theorem lr_isB : LR rIsB wIsB := fun w M H x y vx vy Qu Q h rx ry hq o => by
  obtain ⟨a, b, rfl, rfl, q⟩ := hq
  cases (show Rp w.F _ vy from ry); cases (show Rp w.F _ vx from rx)
  exact ⟨_, _, rfl, rfl, o.here h (RU.D (.bl _)) q⟩
theorem lr_notB : LR rNotB wNotB := fun w M H x y vx vy Qu Q h rx ry hq o => by
  obtain ⟨a, b, rfl, rfl, q⟩ := hq
  cases (show Rp w.F _ vy from ry); cases (show Rp w.F _ vx from rx)
  exact ⟨_, _, rfl, rfl, o.here h (RU.D (.bl _)) q⟩
/-! ### calls of built-ins -/
/-- the views of the arguments -/
def views (M : List Ob) : List U → Option (List PyData)
  | [] => some []
  | u :: us => match view M u, views M us with
    | some d, some ds => some (d :: ds)
    | _, _ => none
/-- one argument -/
def wC1 (f : List Ob → U → Option (PyData × Prop)) : List U → List Ob → (U → List Ob → Prop) → Prop := fun us M Q => ∃ u z C, us = [u] ∧ f M u = some (z, C) ∧ C ∧ Q (.d z) M
def wC2 (f : List Ob → U → U → Option (PyData × Prop)) : List U → List Ob → (U → List Ob → Prop) → Prop := fun us M Q => ∃ u t z C, us = [u, t] ∧ f M u t = some (z, C) ∧ C ∧ Q (.d z) M
def fLen (M : List Ob) (u : U) : Option (PyData × Prop) := match view M u with
  | some (.list ds) => some (.int ds.length, True)
  | some (.tuple ds) => some (.int ds.length, True)
  | some (.str z) => some (.int z.length, z.length ≤ sizeLine)
  | some _ => none
  | none => match u with
    | .p n => match M[n]? with
      | some (.lsp us) => some (.int us.length, True)
      | some (.tpp us) => some (.int us.length, True)
      | _ => none
    | _ => none
def rLen (K : PySem.W.Frag) : List V → Hp → VK → Prop := fun xs H Q => ∃ x n, xs = [x] ∧ LenV K x H n ∧ Q (.int n) H
theorem call_lenAll {X : Cx} : CallR X (.builtin "len") (rLen X.K) := call_len
theorem cell_at {w : Wd} {M : List Ob} {H : Hp} (h : Hold w M H) {n : Nat} {v : V} {m : Ob} (r : RU w (.p n) v) (hm : M[n]? = some m) (h0 : m ≠ .dead) : ∃ a o, v = .ref a ∧ w.th[n]? = some a ∧ H a = some o ∧ RO w m o := by
  obtain ⟨a, ha, rfl⟩ := r
  obtain ⟨o, ho, e⟩ := h.cell n a m ha hm
  rcases e with e | ⟨_, e⟩
  · exact absurd e h0
  · exact ⟨a, o, rfl, ha, ho, e⟩
theorem lc_len {K : PySem.W.Frag} : LC (rLen K) (wC1 fLen) := fun w M H x vx Qu Q h rx hq o => by
  obtain ⟨u, z, C, rfl, e, hC, q⟩ := hq
  cases rx with
  | cons r t =>
    cases t
    unfold fLen at e
    split at e
    · rename_i ds hv
      cases e
      obtain ⟨p, vs, rfl, hp, r1⟩ := view_ok h r hv
      exact ⟨_, _, rfl, .inl ⟨vs, SqL.of hp, r1.length⟩, o.here h (RU.D (.int _)) q⟩
    · rename_i ds hv
      cases e
      obtain ⟨p, vs, rfl, hp, r1, _⟩ := vw_tup h.sub (view_ok h r hv)
      exact ⟨_, _, rfl, .inr ⟨vs, SqT.of hp, r1.length⟩, o.here h (RU.D (.int _)) q⟩
    · rename_i s hv
      cases e
      have e1 := vw_str (view_ok h r hv)
      subst e1
      exact ⟨_, s.length, rfl, ⟨hC, rfl⟩, o.here h (RU.D (.int _)) q⟩
    · cases e
    · split at e
      · rename_i n
        split at e
        · rename_i us hm
          cases e
          obtain ⟨a, ob, rfl, _, ho, vs, rfl, r1⟩ := cell_at h r hm (fun q => nomatch q)
          exact ⟨_, _, rfl, .inl ⟨vs, SqL.of ho, Paired.length r1⟩, o.here h (RU.D (.int _)) q⟩
        · rename_i us hm
          cases e
          obtain ⟨a, ob, rfl, _, ho, vs, rfl, r1⟩ := cell_at h r hm (fun q => nomatch q)
          exact ⟨_, _, rfl, .inr ⟨vs, SqT.of ho, Paired.length r1⟩, o.here h (RU.D (.int _)) q⟩
        · cases e
      · cases e
end DL

namespace DL
open PySem L2
theorem rus1 {w : Wd} {u : U} {vs : List V} (r : RUs w [u] vs) : ∃ v, vs = [v] ∧ RU w u v := by
  cases r with
  | cons r t => cases t; exact ⟨_, rfl, r⟩
theorem rus2 {w : Wd} {u t : U} {vs : List V} (r : RUs w [u, t] vs) : ∃ v x, vs = [v, x] ∧ RU w u v ∧ RU w t x := by
  cases r with
  | cons r t =>
    obtain ⟨x, rfl, rx⟩ := rus1 t
    exact ⟨_, _, rfl, r, rx⟩
/-- an int argument -/
def fI1 (g : Int → PyData) (C : Int → Prop) (M : List Ob) (u : U) : Option (PyData × Prop) := match view M u with
  | some (.int i) => some (g i, C i)
  | _ => none
def fI2 (g : Int → Int → PyData) (M : List Ob) (u t : U) : Option (PyData × Prop) := match view M u, view M t with
  | some (.int i), some (.int j) => some (g i j, True)
  | _, _ => none
theorem fI1_inv {g : Int → PyData} {C : Int → Prop} {M : List Ob} {u : U} {z : PyData} {D : Prop} (e : fI1 g C M u = some (z, D)) : ∃ i, view M u = some (.int i) ∧ z = g i ∧ D = C i := by
  unfold fI1 at e
  split at e
  · cases e; exact ⟨_, by assumption, rfl, rfl⟩
  · cases e
theorem fI2_inv {g : Int → Int → PyData} {M : List Ob} {u t : U} {z : PyData} {D : Prop} (e : fI2 g M u t = some (z, D)) : ∃ i j, view M u = some (.int i) ∧ view M t = some (.int j) ∧ z = g i j := by
  unfold fI2 at e
  split at e
  · cases e; exact ⟨_, _, by assumption, by assumption, rfl⟩
  · cases e
abbrev rAbs : List V → Hp → VK → Prop := fun xs H Q => ∃ i, xs = [.int i] ∧ Q (.int (if i < 0 then -i else i)) H
abbrev wAbs := wC1 (fI1 (fun i => .int (if i < 0 then -i else i)) fun _ => True)
theorem lc_abs : LC rAbs wAbs := fun w M H x vx Qu Q h rx hq o => by
  obtain ⟨u, z, C, rfl, e, hC, q⟩ := hq
  obtain ⟨v, rfl, r⟩ := rus1 rx
  obtain ⟨i, hv, rfl, rfl⟩ := fI1_inv e
  have e1 := vw_int (view_ok h r hv)
  subst e1
  exact ⟨i, rfl, o.here h (RU.D (.int _)) q⟩
abbrev rMax2 : List V → Hp → VK → Prop := fun xs H Q => ∃ i j, xs = [.int i, .int j] ∧ Q (.int (if j > i then j else i)) H
abbrev rMin2 : List V → Hp → VK → Prop := fun xs H Q => ∃ i j, xs = [.int i, .int j] ∧ Q (.int (if j < i then j else i)) H
abbrev wMax2 := wC2 (fI2 fun i j => .int (if j > i then j else i))
abbrev wMin2 := wC2 (fI2 fun i j => .int (if j < i then j else i))
theorem lc_max2 : LC rMax2 wMax2 := fun w M H x vx Qu Q h rx hq o => by
  obtain ⟨u, t, z, C, rfl, e, hC, q⟩ := hq
  obtain ⟨v, y, rfl, r1, r2⟩ := rus2 rx
  obtain ⟨i, j, h1, h2, rfl⟩ := fI2_inv e
  have e1 := vw_int (view_ok h r1 h1)
  have e2 := vw_int (view_ok h r2 h2)
  subst e1 e2
  exact ⟨i, j, rfl, o.here h (RU.D (.int _)) q⟩
theorem lc_min2 : LC rMin2 wMin2 := fun w M H x vx Qu Q h rx hq o => by
  obtain ⟨u, t, z, C, rfl, e, hC, q⟩ := hq
  obtain ⟨v, y, rfl, r1, r2⟩ := rus2 rx
  obtain ⟨i, j, h1, h2, rfl⟩ := fI2_inv e
  have e1 := vw_int (view_ok h r1 h1)
  have e2 := vw_int (view_ok h r2 h2)
  subst e1 e2
  exact ⟨i, j, rfl, o.here h (RU.D (.int _)) q⟩
/-- int(x) of an int or a truth -/
abbrev rInt1 : List V → Hp → VK → Prop := fun xs H Q => (∃ i, xs = [.int i] ∧ Q (.int i) H) ∨ ∃ k, xs = [.bl k] ∧ Q (.int (if k then 1 else 0)) H
def fInt1 (M : List Ob) (u : U) : Option (PyData × Prop) := match view M u with
  | some (.int i) => some (.int i, True)
  | some (.bool k) => some (.int (if k then 1 else 0), True)
  | _ => none
abbrev wInt1 := wC1 fInt1
theorem lc_int1 : LC rInt1 wInt1 := fun w M H x vx Qu Q h rx hq o => by
  obtain ⟨u, z, C, rfl, e, hC, q⟩ := hq
  obtain ⟨v, rfl, r⟩ := rus1 rx
  unfold fInt1 at e
  split at e
  · rename_i i hv
    cases e
    have e1 := vw_int (view_ok h r hv)
    subst e1
    exact .inl ⟨i, rfl, o.here h (RU.D (.int _)) q⟩
  · rename_i i hv
    cases e
    have e1 := vw_bool (view_ok h r hv)
    subst e1
    exact .inr ⟨i, rfl, o.here h (RU.D (.int _)) q⟩
  · cases e
/-- list(x), tuple(x) of a list or tuple -/
def rListOf (K : PySem.W.Frag) : List V → Hp → VK → Prop := fun xs H Q => ∃ p ys, xs = [.ref p] ∧ (SqL K H p ys ∨ SqT K H p ys) ∧ ∀ l, H l = none → Q (.ref l) (upd H l (.lst ys))
theorem call_listOf {X : Cx} : CallR X (.type "list") (rListOf X.K) := call_list_of
def rTupOf (K : PySem.W.Frag) : List V → Hp → VK → Prop := fun xs H Q => ∃ p ys, xs = [.ref p] ∧ ((SqL K H p ys ∧ ∀ l, H l = none → Q (.ref l) (upd H l (.tup ys))) ∨ (SqT K H p ys ∧ Q (.ref p) H))
theorem call_tupOf {X : Cx} : CallR X (.type "tuple") (rTupOf X.K) := call_tuple_of
def itemsD (M : List Ob) (u : U) : Option (List PyData) := match view M u with
  | some (.list ds) => some ds
  | some (.tuple ds) => some ds
  | _ => none
/-- new data; a new cell -/
def wListOf : List U → List Ob → (U → List Ob → Prop) → Prop := fun us M Q => ∃ u ds, us = [u] ∧ itemsD M u = some ds ∧ Q (.d (.list ds)) M
def wListOfC : List U → List Ob → (U → List Ob → Prop) → Prop := fun us M Q => ∃ u ds, us = [u] ∧ itemsD M u = some ds ∧ Q (.p M.length) (M ++ [.lst ds])
def wTupOf : List U → List Ob → (U → List Ob → Prop) → Prop := fun us M Q => ∃ u ds, us = [u] ∧ itemsD M u = some ds ∧ Q (.d (.tuple ds)) M
theorem items_ok {K : PySem.W.Frag} {w : Wd} {M : List Ob} {H : Hp} {u : U} {v : V} {ds : List PyData} (h : Hold w M H) (r : RU w u v) (e : itemsD M u = some ds) : ∃ p vs, v = .ref p ∧ (SqL K H p vs ∨ SqT K H p vs) ∧ RpL w.F ds vs := by
  unfold itemsD at e
  split at e
  · rename_i hv
    cases e
    obtain ⟨p, vs, rfl, hp, r1⟩ := view_ok h r hv
    exact ⟨p, vs, rfl, .inl (SqL.of hp), r1⟩
  · rename_i hv
    cases e
    obtain ⟨p, vs, rfl, hp, r1, _⟩ := vw_tup h.sub (view_ok h r hv)
    exact ⟨p, vs, rfl, .inr (SqT.of hp), r1⟩
  · cases e
theorem lc_listOf {K : PySem.W.Frag} : LC (rListOf K) wListOf := fun w M H x vx Qu Q h rx hq o => by
  obtain ⟨u, ds, rfl, e, q⟩ := hq
  obtain ⟨v, rfl, r⟩ := rus1 rx
  obtain ⟨p, vs, rfl, hs, r1⟩ := items_ok (K := K) h r e
  exact ⟨p, vs, rfl, hs, fun l hl => o _ _ _ _ _ (Step.put h hl) (h.put hl) (RU.D (.lst Wd.putF (r1.mono (same_put (h.newF hl))))) q⟩
theorem lc_listOfC {K : PySem.W.Frag} : LC (rListOf K) wListOfC := fun w M H x vx Qu Q h rx hq o => by
  obtain ⟨u, ds, rfl, e, q⟩ := hq
  obtain ⟨v, rfl, r⟩ := rus1 rx
  obtain ⟨p, vs, rfl, hs, r1⟩ := items_ok (K := K) h r e
  exact ⟨p, vs, rfl, hs, fun l hl => o _ _ _ _ _ (Step.cell h hl) (h.cell' hl (RO.L r1)) (RU.P (Wd.cell_at h)) q⟩
theorem lc_tupOf {K : PySem.W.Frag} : LC (rTupOf K) wTupOf := fun w M H x vx Qu Q h rx hq o => by
  obtain ⟨u, ds, rfl, e, q⟩ := hq
  obtain ⟨v, rfl, r⟩ := rus1 rx
  unfold itemsD at e
  split at e
  · rename_i hv
    cases e
    obtain ⟨p, vs, rfl, hp, r1⟩ := view_ok h r hv
    exact ⟨p, vs, rfl, .inl ⟨SqL.of hp, fun l hl => o _ _ _ _ _ (Step.put h hl) (h.put hl) (RU.D (.tup Wd.putF (r1.mono (same_put (h.newF hl))))) q⟩⟩
  · rename_i hv
    cases e
    obtain ⟨p, vs, rfl, hp, r1, k⟩ := vw_tup h.sub (view_ok h r hv)
    exact ⟨p, vs, rfl, .inr ⟨SqT.of hp, o.here h (RU.D k) q⟩⟩
  · cases e
/-- all, any of a list of truths -/
def bools : List PyData → Option (List Bool)
  | [] => some []
  | .bool b :: ds => match bools ds with
    | some bs => some (b :: bs)
    | none => none
  | _ :: _ => none
theorem bools_ok {F : Hp} : ∀ {ds : List PyData} {vs : List V} {bs : List Bool}, RpL F ds vs → bools ds = some bs → vs = bs.map V.bl
  | _, _, _, .nil, e => by cases e; rfl
  | .bool b :: ds, _, bs, .cons r t, e => by
    have e' : (match bools ds with | some bs => some (b :: bs) | none => none) = some bs := e
    cases q : bools ds with
    | none => rw [q] at e'; cases e'
    | some cs =>
      rw [q] at e'; cases e'
      cases r
      rw [bools_ok t q]; rfl
  | .none :: _, _, _, .cons _ _, e => by cases e
  | .int _ :: _, _, _, .cons _ _, e => by cases e
  | .str _ :: _, _, _, .cons _ _, e => by cases e
  | .list _ :: _, _, _, .cons _ _, e => by cases e
  | .tuple _ :: _, _, _, .cons _ _, e => by cases e
  | .dict _ :: _, _, _, .cons _ _, e => by cases e
theorem bools_map : ∀ bs : List Bool, bools (bs.map PyData.bool) = some bs
  | [] => rfl
  | b :: bs => by
    show (match bools (bs.map PyData.bool) with | some bs => some (b :: bs) | none => none) = _
    rw [bools_map bs]
def wBools (g : List Bool → Bool) : List U → List Ob → (U → List Ob → Prop) → Prop := fun us M Q => ∃ u ds bs, us = [u] ∧ view M u = some (.list ds) ∧ bools ds = some bs ∧ Q (.d (.bool (g bs))) M
theorem lc_all {K : PySem.W.Frag} : LC (rAll K) (wBools fun bs => bs.all id) := fun w M H x vx Qu Q h rx hq o => by
  obtain ⟨u, ds, bs, rfl, e, e2, q⟩ := hq
  obtain ⟨v, rfl, r⟩ := rus1 rx
  obtain ⟨p, vs, rfl, hp, r1⟩ := view_ok h r e
  have e3 := bools_ok r1 e2
  subst e3
  exact ⟨p, bs, rfl, SqL.of hp, o.here h (RU.D (.bl _)) q⟩
theorem lc_any {K : PySem.W.Frag} : LC (rAny K) (wBools fun bs => bs.any id) := fun w M H x vx Qu Q h rx hq o => by
  obtain ⟨u, ds, bs, rfl, e, e2, q⟩ := hq
  obtain ⟨v, rfl, r⟩ := rus1 rx
  obtain ⟨p, vs, rfl, hp, r1⟩ := view_ok h r e
  have e3 := bools_ok r1 e2
  subst e3
  exact ⟨p, bs, rfl, SqL.of hp, o.here h (RU.D (.bl _)) q⟩
/-- isinstance against a built-in class -/
def kindD : PyData → Option String
  | .none => some "NoneType"
  | .bool _ => some "bool"
  | .int _ => some "int"
  | .str _ => some "str"
  | .list _ => some "list"
  | .tuple _ => some "tuple"
  | .dict _ => none
theorem kind_ok {K : PySem.W.Frag} {F H : Hp} (e : Same F H) {d : PyData} {v : V} (r : Vw F H d v) {n : String} (k : kindD d = some n) : TyX K H v (.type n) := by
  cases d with
  | none => cases k; cases (show Rp F _ v from r); exact .base .non
  | bool b => cases k; cases (show Rp F _ v from r); exact .base (.bl b)
  | int b => cases k; cases (show Rp F _ v from r); exact .base (.int b)
  | str b => cases k; cases (show Rp F _ v from r); exact .base (.str b)
  | list ds => cases k; obtain ⟨p, vs, rfl, hp, _⟩ := r; exact .base (.lst hp)
  | tuple ds =>
    cases k
    cases (show Rp F _ v from r) with
    | tup h1 _ => exact .base (.tup (e _ _ h1))
  | dict ds => cases k
/-- h: kitOne of that type, that class -/
def wIsi (K : PySem.W.Frag) : List U → List Ob → (U → List Ob → Prop) → Prop := fun us M Q => ∃ u c d n b, us = [u, .v (.ty c)] ∧ view M u = some d ∧ kindD d = some n ∧ PySem.W.kitOne K (.type n) (.type c) = some b ∧ Q (.d (.bool b)) M
theorem lc_isi {K : PySem.W.Frag} : LC (rIsi K) (wIsi K) := fun w M H x vx Qu Q h rx hq o => by
  obtain ⟨u, c, d, n, b, rfl, hv, hk, hb, q⟩ := hq
  obtain ⟨v, y, rfl, r1, r2⟩ := rus2 rx
  have e : y = .ty c := r2
  subst e
  exact ⟨v, .ty c, .type n, .type c, b, rfl, .ty c, kind_ok h.sub (view_ok h r1 hv) hk, hb, o.here h (RU.D (.bl _)) q⟩
/-! ### methods -/
def wBM (ty : U → List Ob → Prop) (wm : U → List U → List Ob → (U → List Ob → Prop) → Prop) (we : WE) (wr : WA) : WE := fun ρ M Q => we ρ M fun x M1 => ty x M1 ∧ wr ρ M1 fun us M2 => wm x us M2 Q
def TyOk (K : PySem.W.Frag) (T : String) (ty : U → List Ob → Prop) : Prop := ∀ ⦃w : Wd⦄ ⦃M : List Ob⦄ ⦃H : Hp⦄ ⦃x : U⦄ ⦃v : V⦄, Hold w M H → RU w x v → ty x M → tyV K T v H
theorem le_bm {K : PySem.W.Frag} {T : String} {ty : U → List Ob → Prop} {r : V → List V → Hp → VK → Prop} {wm : U → List U → List Ob → (U → List Ob → Prop) → Prop} {te : TE} {we : WE} {tr : TA} {wr : WA} (ht : TyOk K T ty) (hm : LM r wm) (he : LE te we) (hr : LA tr wr) :
    LE (tBM K T r te tr) (wBM ty wm we wr) := fun _ _ _ _ _ _ _ h e hq o =>
  he h e hq fun _ _ _ _ _ s1 h1 r1 q1 => ⟨ht h1 r1 q1.1, hr h1 (e.grow s1.grow) q1.2 fun _ _ _ _ _ s2 h2 r2 q2 => hm h2 (r1.grow s2.grow) r2 q2 ((o.trans s1 h1).trans s2 h2)⟩
theorem le_bm0 {K : PySem.W.Frag} {T : String} {ty : U → List Ob → Prop} {r : V → List V → Hp → VK → Prop} {wm : U → List U → List Ob → (U → List Ob → Prop) → Prop} {te : TE} {we : WE} (ht : TyOk K T ty) (hm : LM r wm) (he : LE te we) :
    LE (tBM0 K T r te) (wBM ty wm we wNil) := fun _ _ _ _ _ _ _ h e hq o =>
  he h e hq fun _ _ _ _ _ s1 h1 r1 q1 => ⟨ht h1 r1 q1.1, hm h1 r1 .nil q1.2 (o.trans s1 h1)⟩
def isList (x : U) (M : List Ob) : Prop := (∃ ds, view M x = some (.list ds)) ∨ ∃ n us, x = .p n ∧ M[n]? = some (.lsp us)
theorem ty_list {K : PySem.W.Frag} : TyOk K "list" isList := fun w M H x v h r t => by
  rcases t with ⟨ds, t⟩ | ⟨n, us, rfl, hm⟩
  · obtain ⟨p, vs, rfl, hp, _⟩ := view_ok h r t
    exact .inl ⟨rfl, vs, SqL.of hp⟩
  · obtain ⟨a, ob, rfl, _, ho, vs, rfl, r1⟩ := cell_at h r hm (fun q => nomatch q)
    exact .inl ⟨rfl, vs, SqL.of ho⟩
def isStr (x : U) (M : List Ob) : Prop := ∃ z, x = .d (.str z)
theorem ty_str {K : PySem.W.Frag} : TyOk K "str" isStr := fun w M H x v h r t => by
  obtain ⟨z, rfl⟩ := t
  cases (show Rp w.F _ v from r)
  exact rfl
/-- a list's cell is changed; what is handed back -/
theorem set_out {w : Wd} {M : List Ob} {H : Hp} {n : Nat} {a : Addr} {m m0 : Ob} {o : HO} {u : U} {v : V} {Qu : U → List Ob → Prop} {Q : VK} (h : Hold w M H) (ha : w.th[n]? = some a) (hm : M[n]? = some m0) (h0 : m0 ≠ .dead) (r : RO w m o) (ru : RU w u v)
    (q : Qu u (M.set n m)) (k : Out RU w H Qu Q) : Q v (upd H a o) := k _ _ _ _ _ (Step.set ha) (h.set ha hm h0 r) ru q
abbrev WM := U → List U → List Ob → (U → List Ob → Prop) → Prop
def wAppend : WM := fun x ys M Q => ∃ n ds d, x = .p n ∧ ys = [.d d] ∧ M[n]? = some (.lst ds) ∧ ds.length < sizeLine ∧ Q (.d .none) (M.set n (.lst (ds ++ [d])))
theorem lm_append : LM rAppend wAppend := fun w M H x vx ys vs Qu Q h rx rs hq o => by
  obtain ⟨n, ds, d, rfl, rfl, hm, hl, q⟩ := hq
  obtain ⟨v, rfl, r⟩ := rus1 rs
  obtain ⟨a, ob, rfl, ha, ho, ws, rfl, r1⟩ := cell_at h rx hm (fun q => nomatch q)
  exact ⟨a, ws, v, rfl, rfl, ho, by rw [← r1.length]; exact hl, set_out h ha hm (fun q => nomatch q) (RO.L (r1.append (.cons r .nil))) (RU.D .non) q o⟩
def wAppendP : WM := fun x ys M Q => ∃ n us u, x = .p n ∧ ys = [u] ∧ M[n]? = some (.lsp us) ∧ us.length < sizeLine ∧ Q (.d .none) (M.set n (.lsp (us ++ [u])))
theorem paired_snoc {w : Wd} {us : List U} {vs : List V} {u : U} {v : V} (r : RUs w us vs) (k : RU w u v) : RUs w (us ++ [u]) (vs ++ [v]) := Paired.snoc r k
theorem lm_appendP : LM rAppend wAppendP := fun w M H x vx ys vs Qu Q h rx rs hq o => by
  obtain ⟨n, us, u, rfl, rfl, hm, hl, q⟩ := hq
  obtain ⟨v, rfl, r⟩ := rus1 rs
  obtain ⟨a, ob, rfl, ha, ho, ws, rfl, r1⟩ := cell_at h rx hm (fun q => nomatch q)
  exact ⟨a, ws, v, rfl, rfl, ho, by rw [← Paired.length r1]; exact hl, set_out h ha hm (fun q => nomatch q) (RO.LP (paired_snoc r1 r)) (RU.D .non) q o⟩
/-- pop(i) -/
def wPopAt : WM := fun x ys M Q => ∃ n ds i k d, x = .p n ∧ ys = [.d (.int i)] ∧ M[n]? = some (.lst ds) ∧ (-(2 ^ 63) ≤ i ∧ i < 2 ^ 63) ∧ seqIndex? i ds.length = some k ∧ ds[k]? = some d ∧ Q (.d d) (M.set n (.lst (ds.eraseIdx k)))
theorem lm_popAt : LM rPopAt wPopAt := fun w M H x vx ys vs Qu Q h rx rs hq o => by
  obtain ⟨n, ds, i, k, d, rfl, rfl, hm, hi, hk, hd, q⟩ := hq
  obtain ⟨v, rfl, r⟩ := rus1 rs
  cases (show Rp w.F _ v from r)
  obtain ⟨a, ob, rfl, ha, ho, ws, rfl, r1⟩ := cell_at h rx hm (fun q => nomatch q)
  obtain ⟨y, hy, ry⟩ := r1.get hd
  exact ⟨a, ws, i, k, y, rfl, rfl, ho, hi.1, hi.2, by rw [← r1.length]; exact hk, hy, set_out h ha hm (fun q => nomatch q) (RO.L (r1.erase k)) (RU.D ry) q o⟩
/-- pop() -/
def wPop : WM := fun x ys M Q => ∃ n ds d, x = .p n ∧ ys = [] ∧ M[n]? = some (.lst ds) ∧ ds[ds.length - 1]? = some d ∧ Q (.d d) (M.set n (.lst ds.dropLast))
theorem RpL.dropLast {F : Hp} : ∀ {ds : List PyData} {vs : List V}, RpL F ds vs → RpL F ds.dropLast vs.dropLast
  | _, _, .nil => .nil
  | _, _, .cons _ .nil => .nil
  | _, _, .cons h (.cons h2 r) => .cons h (RpL.dropLast (.cons h2 r))
theorem lm_pop : LM rPop wPop := fun w M H x vx ys vs Qu Q h rx rs hq o => by
  obtain ⟨n, ds, d, rfl, rfl, hm, hd, q⟩ := hq
  cases rs
  obtain ⟨a, ob, rfl, ha, ho, ws, rfl, r1⟩ := cell_at h rx hm (fun q => nomatch q)
  obtain ⟨y, hy, ry⟩ := r1.get hd
  exact ⟨a, ws, y, rfl, rfl, ho, by rw [← r1.length]; exact hy, set_out h ha hm (fun q => nomatch q) (RO.L r1.dropLast) (RU.D ry) q o⟩
/-- remove(k) of ints, k in it -/
def wRemI : WM := fun x ys M Q => ∃ (n : Nat) (ns : List Int) (k : Int), x = .p n ∧ ys = [.d (.int k)] ∧ M[n]? = some (.lst (ns.map PyData.int)) ∧ k ∈ ns ∧ Q (.d .none) (M.set n (.lst ((ns.erase k).map PyData.int)))
theorem ints_inv {F : Hp} : ∀ {ns : List Int} {vs : List V}, RpL F (ns.map PyData.int) vs → vs = ns.map V.int
  | [], _, h => by cases h; rfl
  | n :: ns, _, h => by
    cases h with
    | cons r t => cases r; rw [ints_inv t]; rfl
theorem first_at : ∀ {ns : List Int} {k : Int}, k ∈ ns → ∃ j : Nat, ns[j]? = some k ∧ (∀ m : Nat, m < j → ns[m]? ≠ some k) ∧ ns.eraseIdx j = ns.erase k
  | n :: ns, k, h => by
    by_cases e : n = k
    · subst e; exact ⟨0, rfl, fun m hm => absurd hm (by omega), by simp⟩
    · have h' : k ∈ ns := by
        rcases List.mem_cons.mp h with q | q
        · exact absurd q.symm e
        · exact q
      obtain ⟨j, h1, h2, h3⟩ := first_at h'
      refine ⟨j + 1, by simpa using h1, fun m hm => ?_, ?_⟩
      · cases m with
        | zero => simpa using e
        | succ m => simpa using h2 m (by omega)
      · rw [List.eraseIdx_cons_succ, h3, List.erase_cons_tail (by simpa using e)]
theorem lm_remI : LM rRemI wRemI := fun w M H x vx ys vs Qu Q h rx rs hq o => by
  obtain ⟨n, ns, k, rfl, rfl, hm, hk, q⟩ := hq
  obtain ⟨v, rfl, r⟩ := rus1 rs
  cases (show Rp w.F _ v from r)
  obtain ⟨a, ob, rfl, ha, ho, ws, rfl, r1⟩ := cell_at h rx hm (fun q => nomatch q)
  have e := ints_inv r1
  subst e
  obtain ⟨j, h1, h2, h3⟩ := first_at hk
  exact ⟨a, ns, k, j, rfl, rfl, ho, h1, h2, by rw [h3]; exact set_out h ha hm (fun q => nomatch q) (RO.L (RpL.ints _)) (RU.D .non) q o⟩
/-- count(k) of ints -/
def wCntI : WM := fun x ys M Q => ∃ (ns : List Int) (k : Int), view M x = some (.list (ns.map PyData.int)) ∧ ys = [.d (.int k)] ∧ Q (.d (.int (ns.count k : Nat))) M
theorem lm_cntI {K : PySem.W.Frag} : LM (rCntI K) wCntI := fun w M H x vx ys vs Qu Q h rx rs hq o => by
  obtain ⟨ns, k, hv, rfl, q⟩ := hq
  obtain ⟨v, rfl, r⟩ := rus1 rs
  cases (show Rp w.F _ v from r)
  obtain ⟨p, ws, rfl, hp, r1⟩ := view_ok h rx hv
  have e := ints_inv r1
  subst e
  exact ⟨p, ns, k, rfl, rfl, SqL.of hp, o.here h (RU.D (.int _)) q⟩
/-- extend by a list -/
def wExtend : WM := fun x ys M Q => ∃ n ds u es, x = .p n ∧ ys = [u] ∧ M[n]? = some (.lst ds) ∧ view M u = some (.list es) ∧ ds.length + es.length ≤ sizeLine ∧ Q (.d .none) (M.set n (.lst (ds ++ es)))
theorem lm_extend : LM rExtend wExtend := fun w M H x vx ys vs Qu Q h rx rs hq o => by
  obtain ⟨n, ds, u, es, rfl, rfl, hm, hv, hl, q⟩ := hq
  obtain ⟨v, rfl, r⟩ := rus1 rs
  obtain ⟨a, ob, rfl, ha, ho, ws, rfl, r1⟩ := cell_at h rx hm (fun q => nomatch q)
  obtain ⟨p, zs, rfl, hp, r2⟩ := view_ok h r hv
  exact ⟨a, p, ws, zs, rfl, rfl, ho, hp, by rw [← r1.length, ← r2.length]; exact hl, set_out h ha hm (fun q => nomatch q) (RO.L (r1.append r2)) (RU.D .non) q o⟩
end DL

namespace DL
open PySem L2
theorem Grow.trans {w w1 w2 : Wd} (a : Grow w w1) (b : Grow w1 w2) : Grow w w2 := ⟨a.F.trans b.F, fun n x h => b.th n x (a.th n x h)⟩
/-- what an iterator yields: the items, while G of the cells holds -/
structure JOk (w : Wd) (J : It) (us : List U) (G : List Ob → Prop) : Prop where
  stop : ∀ {w' : Wd} {M : List Ob} {H : Hp} (i : Nat), Grow w w' → Hold w' M H → G M → us.length ≤ i → J.stop i H
  go : ∀ {w' : Wd} {M : List Ob} {H : Hp} (i : Nat), Grow w w' → Hold w' M H → G M → i < us.length → J.go i H
  yld : ∀ {w' : Wd} {M : List Ob} {H H' : Hp} {v : V} {u : U} (i : Nat), Grow w w' → Hold w' M H → G M → us[i]? = some u → J.yld i H v H' → ∃ w'', Step w' H w'' H' ∧ Hold w'' M H' ∧ RU w'' u v
abbrev WI := Rho → List Ob → (List U → (List Ob → Prop) → List Ob → Prop) → Prop
def LI (wi : TI) (ww : WI) : Prop := ∀ ⦃w : Wd⦄ ⦃M : List Ob⦄ ⦃H : Hp⦄ ⦃σ : L2.St⦄ ⦃ρ : Rho⦄ ⦃Rq : List U → (List Ob → Prop) → List Ob → Prop⦄ ⦃R : It → Hp → Prop⦄, Hold w M H → Env w σ ρ → ww ρ M Rq →
  (∀ (us : List U) (G : List Ob → Prop) (M1 : List Ob) (J : It) (w1 : Wd) (H1 : Hp), Step w H w1 H1 → Hold w1 M1 H1 → JOk w1 J us G → Rq us G M1 → R J H1) → wi σ H R
/-- a loop's turns -/
def wLoop (G : List Ob → Prop) (wg : WG) (wb : WS) (De : DEnds) : List U → Rho → List Ob → Prop
  | [], ρ, M => G M ∧ De.nx ρ M
  | u :: us, ρ, M => G M ∧ wg u ρ M fun ρ1 M1 => wb { De with nx := wLoop G wg wb De us, ct := wLoop G wg wb De us, bk := De.nx } ρ1 M1
def wFor (ww : WI) (wg : WG) (wb : WS) : WS := fun De ρ M => ww ρ M fun us G M1 => wLoop G wg wb De us ρ M1
theorem wLoop_G {G : List Ob → Prop} {wg : WG} {wb : WS} {De : DEnds} : ∀ {us : List U} {ρ : Rho} {M : List Ob}, wLoop G wg wb De us ρ M → G M
  | [], _, _, h => h.1
  | _ :: _, _, _, h => h.1
theorem ls_for {wi : TI} {g : TG} {tb : TS} {ww : WI} {wg : WG} {wb : WS} (hi : LI wi ww) (hg : LG g wg) (hb : LS tb wb) : LS (tFor wi g tb) (wFor ww wg wb) := fun w M H σ ρ De E h e hq o => by
  refine hi h e hq fun us G M1 J w1 H1 s1 h1 j q => ?_
  refine ⟨fun i m σ' H' => m = us.length - i ∧ ∃ w' M' ρ', Step w H w' H' ∧ Grow w1 w' ∧ Hold w' M' H' ∧ Env w' σ' ρ' ∧ wLoop G wg wb De (us.drop i) ρ' M', ⟨us.length, by simp, w1, M1, ρ, s1, Grow.refl _, h1, e.grow s1.grow, q⟩, ?_⟩
  rintro i m σ' H' ⟨hm, w', M', ρ', s', g', h', e', q'⟩
  by_cases hi' : i < us.length
  · right
    have hG := wLoop_G q'
    rw [List.drop_eq_getElem_cons hi'] at q'
    refine ⟨j.go i g' h' hG hi', fun σ2 H2 => ∃ w2 M2 ρ2, Step w H w2 H2 ∧ Grow w1 w2 ∧ Hold w2 M2 H2 ∧ Env w2 σ2 ρ2 ∧ wLoop G wg wb De (us.drop (i + 1)) ρ2 M2, ?_, fun v H2 y => ?_⟩
    · rintro σ2 H2 ⟨w2, M2, ρ2, z⟩
      exact ⟨us.length - (i + 1), by omega, rfl, w2, M2, ρ2, z⟩
    · obtain ⟨w2, s2, h2, r2⟩ := j.yld i g' h' hG (List.getElem?_eq_getElem hi') y
      have s3 := s'.trans h' s2
      have g3 := g'.trans s2.grow
      refine hg h2 (e'.grow s2.grow) r2 q'.2 fun ρ3 M3 σ3 w3 H3 s4 h3 e3 q3 => ?_
      have s5 := s3.trans h2 s4
      have g5 := g3.trans s4.grow
      refine hb h3 e3 q3 ⟨?_, o.rt.trans s5 h3, o.nx.trans s5 h3, ?_⟩
      · intro ρ4 M4 σ4 w4 H4 s6 h4 e4 q4
        exact ⟨w4, M4, ρ4, s5.trans h3 s6, g5.trans s6.grow, h4, e4, q4⟩
      · intro ρ4 M4 σ4 w4 H4 s6 h4 e4 q4
        exact ⟨w4, M4, ρ4, s5.trans h3 s6, g5.trans s6.grow, h4, e4, q4⟩
  · left
    rw [List.drop_of_length_le (by omega)] at q'
    exact ⟨j.stop i g' h' q'.1 (by omega), o.nx _ _ _ _ _ s' h' e' q'.2⟩
/-- proving a loop: an invariant over what is done and what is left -/
theorem wLoop_inv {G : List Ob → Prop} {wg : WG} {wb : WS} {De : DEnds} (I : List U → List U → Rho → List Ob → Prop)
    (hG : ∀ d r ρ M, I d r ρ M → G M)
    (turn : ∀ d u r ρ M, I d (u :: r) ρ M → wg u ρ M fun ρ1 M1 => wb { De with nx := fun ρ2 M2 => I (d ++ [u]) r ρ2 M2, ct := fun ρ2 M2 => I (d ++ [u]) r ρ2 M2, bk := De.nx } ρ1 M1)
    (fin : ∀ d ρ M, I d [] ρ M → De.nx ρ M)
    (mg : ∀ {u ρ M} {Q Q' : Rho → List Ob → Prop}, (∀ ρ' M', Q ρ' M' → Q' ρ' M') → wg u ρ M Q → wg u ρ M Q')
    (mb : ∀ {ρ M} {D D' : DEnds}, (∀ ρ' M', D.nx ρ' M' → D'.nx ρ' M') → (∀ x M', D.rt x M' → D'.rt x M') → (∀ ρ' M', D.bk ρ' M' → D'.bk ρ' M') → (∀ ρ' M', D.ct ρ' M' → D'.ct ρ' M') → wb D ρ M → wb D' ρ M) :
    ∀ (us d : List U) (ρ : Rho) (M : List Ob), I d us ρ M → wLoop G wg wb De us ρ M := by
  intro us
  induction us with
  | nil => intro d ρ M h; exact ⟨hG _ _ _ _ h, fin _ _ _ h⟩
  | cons u us ih =>
    intro d ρ M h
    refine ⟨hG _ _ _ _ h, mg ?_ (turn d u us ρ M h)⟩
    intro ρ1 M1 q
    refine mb ?_ ?_ ?_ ?_ q
    · intro ρ2 M2 z; exact ih _ _ _ z
    · intro _ _ z; exact z
    · intro _ _ z; exact z
    · intro ρ2 M2 z; exact ih _ _ _ z
/-- a loop by what holds ahead of the items that are left -/
theorem wLoop_rec {G : List Ob → Prop} {wg : WG} {wb : WS} {De : DEnds} (I : List U → Rho → List Ob → Prop) (h0 : ∀ ρ M, I [] ρ M → G M ∧ De.nx ρ M)
    (h1 : ∀ u us, (∀ ρ M, I us ρ M → wLoop G wg wb De us ρ M) → ∀ ρ M, I (u :: us) ρ M → G M ∧ wg u ρ M fun ρ1 M1 => wb { De with nx := wLoop G wg wb De us, ct := wLoop G wg wb De us, bk := De.nx } ρ1 M1) :
    ∀ us ρ M, I us ρ M → wLoop G wg wb De us ρ M := by
  intro us
  induction us with
  | nil => intro ρ M h; exact h0 ρ M h
  | cons u us ih => intro ρ M h; exact h1 u us ih ρ M h
/-! ### what is walked -/
/-- a list or tuple of data that stays -/
theorem sqL_eq {K : PySem.W.Frag} {H : Hp} {a : Addr} {xs ys : List V} (h : H a = some (.lst xs)) (h2 : SqL K H a ys) (k : K.lookup a = none ∨ True) : True := trivial
def wIList (we : WE) : WI := fun ρ M Q => we ρ M fun x M1 => ∃ ds, x = .d (.list ds) ∧ Q (ds.map U.d) (fun _ => True) M1
def wIListC (we : WE) : WI := fun ρ M Q => we ρ M fun x M1 => ∃ n ds, x = .p n ∧ M1[n]? = some (.lst ds) ∧ Q (ds.map U.d) (fun M' => M'[n]? = some (.lst ds)) M1
def wITup (we : WE) : WI := fun ρ M Q => we ρ M fun x M1 => ∃ ds, x = .d (.tuple ds) ∧ Q (ds.map U.d) (fun _ => True) M1
theorem getMap {ds : List PyData} {i : Nat} {u : U} (h : (ds.map U.d)[i]? = some u) : ∃ d, ds[i]? = some d ∧ u = .d d := by
  rw [List.getElem?_map] at h
  cases e : ds[i]? with
  | none => rw [e] at h; cases h
  | some d => rw [e] at h; exact ⟨d, rfl, (Option.some.inj h).symm⟩
theorem j_list {K : PySem.W.Frag} {w : Wd} {a : Addr} {vs : List V} {ds : List PyData} (ha : w.F a = some (.lst vs)) (r : RpL w.F ds vs) : JOk w (Itl K a) (ds.map U.d) fun _ => True where
  stop := fun {w' M H} i g h _ hi => ⟨vs, SqL.of (h.sub _ _ (g.F _ _ ha)), by rw [← r.length]; simpa using hi⟩
  go := fun {w' M H} i g h _ hi => by
    have hi' : i < vs.length := by rw [← r.length]; simpa using hi
    exact ⟨vs, vs[i], SqL.of (h.sub _ _ (g.F _ _ ha)), List.getElem?_eq_getElem hi'⟩
  yld := fun {w' M H H' v u} i g h _ hu y => by
    obtain ⟨rfl, y⟩ := y
    obtain ⟨d, hd, rfl⟩ := getMap hu
    obtain ⟨v', h1, h2⟩ := r.get hd
    have h3 := y vs (SqL.of (h.sub _ _ (g.F _ _ ha)))
    rw [h1] at h3; cases h3
    exact ⟨w', Step.refl _ _, h, RU.D (h2.mono g.F)⟩
theorem j_tup {K : PySem.W.Frag} {w : Wd} {a : Addr} {vs : List V} {ds : List PyData} (ha : w.F a = some (.tup vs)) (r : RpL w.F ds vs) : JOk w (Itt K a) (ds.map U.d) fun _ => True where
  stop := fun {w' M H} i g h _ hi => ⟨vs, SqT.of (h.sub _ _ (g.F _ _ ha)), by rw [← r.length]; simpa using hi⟩
  go := fun {w' M H} i g h _ hi => by
    have hi' : i < vs.length := by rw [← r.length]; simpa using hi
    exact ⟨vs, vs[i], SqT.of (h.sub _ _ (g.F _ _ ha)), List.getElem?_eq_getElem hi'⟩
  yld := fun {w' M H H' v u} i g h _ hu y => by
    obtain ⟨rfl, y⟩ := y
    obtain ⟨d, hd, rfl⟩ := getMap hu
    obtain ⟨v', h1, h2⟩ := r.get hd
    have h3 := y vs (SqT.of (h.sub _ _ (g.F _ _ ha)))
    rw [h1] at h3; cases h3
    exact ⟨w', Step.refl _ _, h, RU.D (h2.mono g.F)⟩
theorem j_listC {K : PySem.W.Frag} {w : Wd} {n : Nat} {a : Addr} {ds : List PyData} (ha : w.th[n]? = some a) : JOk w (Itl K a) (ds.map U.d) fun M' => M'[n]? = some (.lst ds) where
  stop := fun {w' M H} i g h hm hi => by
    obtain ⟨b, ob, e, _, ho, vs, rfl, r⟩ := cell_at h (RU.P (g.th _ _ ha)) hm (fun q => nomatch q)
    cases e
    exact ⟨vs, SqL.of ho, by rw [← r.length]; simpa using hi⟩
  go := fun {w' M H} i g h hm hi => by
    obtain ⟨b, ob, e, _, ho, vs, rfl, r⟩ := cell_at h (RU.P (g.th _ _ ha)) hm (fun q => nomatch q)
    cases e
    have hi' : i < vs.length := by rw [← r.length]; simpa using hi
    exact ⟨vs, vs[i], SqL.of ho, List.getElem?_eq_getElem hi'⟩
  yld := fun {w' M H H' v u} i g h hm hu y => by
    obtain ⟨b, ob, e, _, ho, vs, rfl, r⟩ := cell_at h (RU.P (g.th _ _ ha)) hm (fun q => nomatch q)
    cases e
    obtain ⟨rfl, y⟩ := y
    obtain ⟨d, hd, rfl⟩ := getMap hu
    obtain ⟨v', h1, h2⟩ := r.get hd
    have h3 := y vs (SqL.of ho)
    rw [h1] at h3; cases h3
    exact ⟨w', Step.refl _ _, h, RU.D h2⟩
theorem li_list {K : PySem.W.Frag} {te : TE} {we : WE} (he : LE te we) : LI (iList K te) (wIList we) := fun _ _ _ _ _ _ _ h e hq k =>
  he h e hq fun _ _ _ _ _ s1 h1 r1 q1 => by
    obtain ⟨ds, rfl, q⟩ := q1
    cases (show Rp _ _ _ from r1) with
    | lst ha r => exact ⟨_, rfl, ⟨_, SqL.of (h1.sub _ _ ha)⟩, k _ _ _ _ _ _ s1 h1 (j_list ha r) q⟩
theorem li_tup {K : PySem.W.Frag} {te : TE} {we : WE} (he : LE te we) : LI (iTup K te) (wITup we) := fun _ _ _ _ _ _ _ h e hq k =>
  he h e hq fun _ _ _ _ _ s1 h1 r1 q1 => by
    obtain ⟨ds, rfl, q⟩ := q1
    cases (show Rp _ _ _ from r1) with
    | tup ha r => exact ⟨_, rfl, ⟨_, SqT.of (h1.sub _ _ ha)⟩, k _ _ _ _ _ _ s1 h1 (j_tup ha r) q⟩
theorem li_listC {K : PySem.W.Frag} {te : TE} {we : WE} (he : LE te we) : LI (iList K te) (wIListC we) := fun _ _ _ _ _ _ _ h e hq k =>
  he h e hq fun _ _ _ _ _ s1 h1 r1 q1 => by
    obtain ⟨n, ds, rfl, hm, q⟩ := q1
    obtain ⟨a, ob, rfl, ha, ho, vs, rfl, r⟩ := cell_at h1 r1 hm (fun q => nomatch q)
    exact ⟨_, rfl, ⟨_, SqL.of ho⟩, k _ _ _ _ _ _ s1 h1 (j_listC ha) q⟩
/-- range(n) -/
def intsU (lo : Int) (n : Nat) : List U := (List.range n).map fun i => U.d (.int (lo + (i : Nat)))
theorem j_rng {w : Wd} {lo : Int} {n : Nat} : JOk w (Itr lo n) (intsU lo n) fun _ => True where
  stop := fun i _ _ _ hi => by
    show n ≤ i
    simpa [intsU] using hi
  go := fun i _ _ _ hi => by
    show i < n
    simpa [intsU] using hi
  yld := fun {w' M H H' v u} i g h _ hu y => by
    obtain ⟨rfl, rfl⟩ := y
    have hl : i < n := by simpa [intsU] using (List.getElem?_eq_some_iff.mp hu).1
    have e : u = .d (.int (lo + (i : Nat))) := by
      unfold intsU at hu
      rw [List.getElem?_map, List.getElem?_range hl] at hu
      exact (Option.some.inj hu).symm
    subst e
    exact ⟨w', Step.refl _ _, h, RU.D (.int _)⟩
def wIRng1 (wr : WA) : WI := fun ρ M Q => wr ρ M fun us M1 => ∃ u j, us = [u] ∧ view M1 u = some (.int j) ∧ (-(2 ^ 62) ≤ j ∧ j < 2 ^ 62) ∧ Q (intsU 0 j.toNat) (fun _ => True) M1
theorem li_rng1 {tr : TA} {wr : WA} (hr : LA tr wr) : LI (iRng1 tr) (wIRng1 wr) := fun _ _ _ _ _ _ _ h e hq k =>
  hr h e hq fun _ _ _ _ _ s1 h1 r1 q1 => by
    obtain ⟨u, j, rfl, hv, hj, q⟩ := q1
    obtain ⟨v, rfl, r⟩ := rus1 r1
    exact ⟨j, by rw [vw_int (view_ok h1 r hv)], hj.1, hj.2, k _ _ _ _ _ _ s1 h1 j_rng q⟩
/-- zip of two lists or two tuples of data -/
def pairs (ds es : List PyData) : List U := (ds.zip es).map fun p => U.d (.tuple [p.1, p.2])
theorem zip_get {ds es : List PyData} {i : Nat} {u : U} (h : (pairs ds es)[i]? = some u) : ∃ d e, ds[i]? = some d ∧ es[i]? = some e ∧ u = .d (.tuple [d, e]) := by
  unfold pairs at h
  rw [List.getElem?_map] at h
  cases q : (ds.zip es)[i]? with
  | none => rw [q] at h; cases h
  | some p =>
    rw [q] at h
    obtain ⟨h1, h2⟩ := List.getElem?_zip_eq_some.mp q
    exact ⟨p.1, p.2, h1, h2, (Option.some.inj h).symm⟩
theorem j_zip {K : PySem.W.Frag} {w : Wd} {a b : Addr} {vs ws : List V} {ds es : List PyData} (ha : w.F a = some (.lst vs)) (r : RpL w.F ds vs) (hb : w.F b = some (.lst ws)) (r2 : RpL w.F es ws) : JOk w (Itz K a b) (pairs ds es) fun _ => True where
  stop := fun {w' M H} i g h _ hi => by
    refine ⟨vs, ws, SqL.of (h.sub _ _ (g.F _ _ ha)), SqL.of (h.sub _ _ (g.F _ _ hb)), ?_⟩
    rw [← r.length, ← r2.length]
    simp [pairs, List.length_zip] at hi
    omega
  go := fun {w' M H} i g h _ hi => by
    simp [pairs, List.length_zip] at hi
    have h1 : i < vs.length := by rw [← r.length]; omega
    have h2 : i < ws.length := by rw [← r2.length]; omega
    exact ⟨vs, ws, vs[i], ws[i], SqL.of (h.sub _ _ (g.F _ _ ha)), SqL.of (h.sub _ _ (g.F _ _ hb)), List.getElem?_eq_getElem h1, List.getElem?_eq_getElem h2⟩
  yld := fun {w' M H H' v u} i g h _ hu y => by
    obtain ⟨T, x, y', rfl, hT, rfl, y1, y2⟩ := y
    obtain ⟨d, e, h1, h2, rfl⟩ := zip_get hu
    obtain ⟨v1, h3, h4⟩ := r.get h1
    obtain ⟨v2, h5, h6⟩ := r2.get h2
    have q1 := y1 vs (SqL.of (h.sub _ _ (g.F _ _ ha)))
    have q2 := y2 ws (SqL.of (h.sub _ _ (g.F _ _ hb)))
    rw [h3] at q1; rw [h5] at q2
    have q3 := Option.some.inj q1
    have q4 := Option.some.inj q2
    subst q3 q4
    have m := g.F.trans (same_put (o := .tup [v1, v2]) (h.newF hT))
    exact ⟨w'.put T _, Step.put h hT, h.put hT, RU.D (.tup Wd.putF (.cons (h4.mono m) (.cons (h6.mono m) .nil)))⟩
theorem j_zipT {K : PySem.W.Frag} {w : Wd} {a b : Addr} {vs ws : List V} {ds es : List PyData} (ha : w.F a = some (.tup vs)) (r : RpL w.F ds vs) (hb : w.F b = some (.tup ws)) (r2 : RpL w.F es ws) : JOk w (RZ.ItzT K a b) (pairs ds es) fun _ => True where
  stop := fun {w' M H} i g h _ hi => by
    refine ⟨vs, ws, SqT.of (h.sub _ _ (g.F _ _ ha)), SqT.of (h.sub _ _ (g.F _ _ hb)), ?_⟩
    rw [← r.length, ← r2.length]
    simp [pairs, List.length_zip] at hi
    omega
  go := fun {w' M H} i g h _ hi => by
    simp [pairs, List.length_zip] at hi
    have h1 : i < vs.length := by rw [← r.length]; omega
    have h2 : i < ws.length := by rw [← r2.length]; omega
    exact ⟨vs, ws, vs[i], ws[i], SqT.of (h.sub _ _ (g.F _ _ ha)), SqT.of (h.sub _ _ (g.F _ _ hb)), List.getElem?_eq_getElem h1, List.getElem?_eq_getElem h2⟩
  yld := fun {w' M H H' v u} i g h _ hu y => by
    obtain ⟨T, x, y', rfl, hT, rfl, y1, y2⟩ := y
    obtain ⟨d, e, h1, h2, rfl⟩ := zip_get hu
    obtain ⟨v1, h3, h4⟩ := r.get h1
    obtain ⟨v2, h5, h6⟩ := r2.get h2
    have q1 := y1 vs (SqT.of (h.sub _ _ (g.F _ _ ha)))
    have q2 := y2 ws (SqT.of (h.sub _ _ (g.F _ _ hb)))
    rw [h3] at q1; rw [h5] at q2
    have q3 := Option.some.inj q1
    have q4 := Option.some.inj q2
    subst q3 q4
    have m := g.F.trans (same_put (o := .tup [v1, v2]) (h.newF hT))
    exact ⟨w'.put T _, Step.put h hT, h.put hT, RU.D (.tup Wd.putF (.cons (h4.mono m) (.cons (h6.mono m) .nil)))⟩
def wIZip (wr : WA) : WI := fun ρ M Q => wr ρ M fun us M1 => ∃ ds es, (us = [.d (.list ds), .d (.list es)] ∨ us = [.d (.tuple ds), .d (.tuple es)]) ∧ Q (pairs ds es) (fun _ => True) M1
theorem li_zip {K : PySem.W.Frag} {tr : TA} {wr : WA} (hr : LA tr wr) : LI (RZ.iZipA K tr) (wIZip wr) := fun _ _ _ _ _ _ _ h e hq k =>
  hr h e hq fun _ _ _ _ _ s1 h1 r1 q1 => by
    obtain ⟨ds, es, hu, q⟩ := q1
    rcases hu with rfl | rfl
    · obtain ⟨v1, v2, rfl, x1, x2⟩ := rus2 r1
      cases (show Rp _ _ _ from x1) with
      | lst ha ra =>
        cases (show Rp _ _ _ from x2) with
        | lst hb rb => exact ⟨_, _, _, _, rfl, .inl ⟨SqL.of (h1.sub _ _ ha), SqL.of (h1.sub _ _ hb), k _ _ _ _ _ _ s1 h1 (j_zip ha ra hb rb) q⟩⟩
    · obtain ⟨v1, v2, rfl, x1, x2⟩ := rus2 r1
      cases (show Rp _ _ _ from x1) with
      | tup ha ra =>
        cases (show Rp _ _ _ from x2) with
        | tup hb rb => exact ⟨_, _, _, _, rfl, .inr ⟨SqT.of (h1.sub _ _ ha), SqT.of (h1.sub _ _ hb), k _ _ _ _ _ _ s1 h1 (j_zipT ha ra hb rb) q⟩⟩
/-- enumerate of a list of data -/
def counted (ds : List PyData) : List U := ds.zipIdx.map fun p => U.d (.tuple [.int (p.2 : Nat), p.1])
theorem counted_get {ds : List PyData} {i : Nat} {u : U} (h : (counted ds)[i]? = some u) : ∃ d, ds[i]? = some d ∧ u = .d (.tuple [.int (i : Nat), d]) := by
  unfold counted at h
  rw [List.getElem?_map, List.getElem?_zipIdx] at h
  cases q : ds[i]? with
  | none => rw [q] at h; cases h
  | some d => rw [q] at h; exact ⟨d, rfl, by simpa using (Option.some.inj h).symm⟩
theorem j_enum {K : PySem.W.Frag} {w : Wd} {a : Addr} {vs : List V} {ds : List PyData} (ha : w.F a = some (.lst vs)) (r : RpL w.F ds vs) : JOk w (Ite K a) (counted ds) fun _ => True where
  stop := fun {w' M H} i g h _ hi => ⟨vs, SqL.of (h.sub _ _ (g.F _ _ ha)), by rw [← r.length]; simpa [counted] using hi⟩
  go := fun {w' M H} i g h _ hi => by
    have hi' : i < vs.length := by rw [← r.length]; simpa [counted] using hi
    exact ⟨vs, vs[i], SqL.of (h.sub _ _ (g.F _ _ ha)), List.getElem?_eq_getElem hi'⟩
  yld := fun {w' M H H' v u} i g h _ hu y => by
    obtain ⟨T, x, rfl, hT, rfl, y1⟩ := y
    obtain ⟨d, h1, rfl⟩ := counted_get hu
    obtain ⟨v1, h3, h4⟩ := r.get h1
    have q1 := y1 vs (SqL.of (h.sub _ _ (g.F _ _ ha)))
    rw [h3] at q1
    have q3 := Option.some.inj q1
    subst q3
    have m := g.F.trans (same_put (o := .tup [.int (i : Nat), v1]) (h.newF hT))
    exact ⟨w'.put T _, Step.put h hT, h.put hT, RU.D (.tup Wd.putF (.cons (.int _) (.cons (h4.mono m) .nil)))⟩
def wIEnum (wr : WA) : WI := fun ρ M Q => wr ρ M fun us M1 => ∃ ds, us = [.d (.list ds)] ∧ Q (counted ds) (fun _ => True) M1
theorem li_enum {K : PySem.W.Frag} {tr : TA} {wr : WA} (hr : LA tr wr) : LI (iEnum K tr) (wIEnum wr) := fun _ _ _ _ _ _ _ h e hq k =>
  hr h e hq fun _ _ _ _ _ s1 h1 r1 q1 => by
    obtain ⟨ds, rfl, q⟩ := q1
    obtain ⟨v1, rfl, x1⟩ := rus1 r1
    cases (show Rp _ _ _ from x1) with
    | lst ha ra => exact ⟨_, _, rfl, SqL.of (h1.sub _ _ ha), k _ _ _ _ _ _ s1 h1 (j_enum ha ra) q⟩
/-- the signs of a text -/
def signs (x : Str) : List U := x.cps.toList.map fun c => U.d (.str ⟨#[c]⟩)
theorem j_str {w : Wd} {x : Str} : JOk w (Its x) (signs x) fun _ => True where
  stop := fun i _ _ _ hi => by
    show x.cps.size ≤ i
    simpa [signs] using hi
  go := fun i _ _ _ hi => by
    show i < x.cps.size
    simpa [signs] using hi
  yld := fun {w' M H H' v u} i g h _ hu y => by
    obtain ⟨rfl, c, hc, rfl⟩ := y
    unfold signs at hu
    rw [List.getElem?_map, Array.getElem?_toList, hc] at hu
    cases (Option.some.inj hu)
    exact ⟨w', Step.refl _ _, h, RU.D (.str _)⟩
def wIStr (we : WE) : WI := fun ρ M Q => we ρ M fun x M1 => ∃ z, x = .d (.str z) ∧ Q (signs z) (fun _ => True) M1
theorem li_str {te : TE} {we : WE} (he : LE te we) : LI (iStr te) (wIStr we) := fun _ _ _ _ _ _ _ h e hq k =>
  he h e hq fun _ _ _ _ _ s1 h1 r1 q1 => by
    obtain ⟨z, rfl, q⟩ := q1
    cases (show Rp _ _ _ from r1)
    exact ⟨z, rfl, k _ _ _ _ _ _ s1 h1 j_str q⟩
end DL

namespace DL
open PySem L2
/-! ### comprehensions -/
def wipeR (ρ : Rho) : List Nat → Rho
  | [] => ρ
  | v :: vs => (wipeR ρ vs).set v none
theorem Env.unset {w : Wd} {σ : L2.St} {ρ : Rho} (e : Env w σ ρ) (i : Nat) : Env w (σ.set i none) (ρ.set i none) := by
  refine ⟨by rw [List.length_set, List.length_set]; exact e.len, fun j x h => ?_⟩
  by_cases hj : j = i
  · subst hj
    have hl : j < ρ.length := by
      have := (List.getElem?_eq_some_iff.mp h).1
      rw [List.length_set] at this; exact this
    rw [List.getElem?_set_self hl] at h
    cases h
  · rw [List.getElem?_set_ne (fun q => hj q.symm)] at h
    rw [List.getElem?_set_ne (fun q => hj q.symm)]
    exact e.at_ j x h
theorem Env.wipe {w : Wd} {σ : L2.St} {ρ : Rho} (e : Env w σ ρ) : ∀ vs : List Nat, Env w (L2.wipe σ vs) (wipeR ρ vs)
  | [] => e
  | v :: vs => (Env.wipe e vs).unset v
theorem wipe_set {σ : L2.St} {i : Nat} {x : Option V} : ∀ {vs : List Nat}, i ∈ vs → L2.wipe (σ.set i x) vs = L2.wipe σ vs
  | [], h => nomatch h
  | v :: vs, h => by
    show (L2.wipe (σ.set i x) vs).set v none = (L2.wipe σ vs).set v none
    by_cases hi : i ∈ vs
    · rw [wipe_set hi]
    · have hv : i = v := by
        rcases List.mem_cons.mp h with q | q
        · exact q
        · exact absurd q hi
      subst hv
      have out : ∀ {vs : List Nat} (τ : L2.St), i ∉ vs → L2.wipe (τ.set i x) vs = (L2.wipe τ vs).set i x := by
        intro vs
        induction vs with
        | nil => intro τ _; rfl
        | cons u us ih =>
          intro τ hu
          show (L2.wipe (τ.set i x) us).set u none = ((L2.wipe τ us).set u none).set i x
          rw [ih τ (fun m => hu (List.mem_cons_of_mem _ m)), List.set_comm]
          exact fun e => hu (by rw [e]; exact List.mem_cons_self)
      rw [out σ hi, List.set_set]
/-- a target within a comprehension's own slots -/
def LGv (vs : List Nat) (g : TG) (wg : WG) : Prop := ∀ ⦃w : Wd⦄ ⦃M : List Ob⦄ ⦃H : Hp⦄ ⦃σ : L2.St⦄ ⦃ρ : Rho⦄ ⦃u : U⦄ ⦃v : V⦄ ⦃Qu : Rho → List Ob → Prop⦄ ⦃Q : L2.St → Hp → Prop⦄, Hold w M H → Env w σ ρ → RU w u v → wg u ρ M Qu →
  (∀ (ρ' : Rho) (M' : List Ob) (σ' : L2.St) (w' : Wd) (H' : Hp), Step w H w' H' → Hold w' M' H' → Env w' σ' ρ' → wipe σ' vs = wipe σ vs → Qu ρ' M' → Q σ' H') → g v σ H Q
def LGvs (vs : List Nat) (g : TGs) (wg : WGs) : Prop := ∀ ⦃w : Wd⦄ ⦃M : List Ob⦄ ⦃H : Hp⦄ ⦃σ : L2.St⦄ ⦃ρ : Rho⦄ ⦃u : List U⦄ ⦃v : List V⦄ ⦃Qu : Rho → List Ob → Prop⦄ ⦃Q : L2.St → Hp → Prop⦄, Hold w M H → Env w σ ρ → RUs w u v → wg u ρ M Qu →
  (∀ (ρ' : Rho) (M' : List Ob) (σ' : L2.St) (w' : Wd) (H' : Hp), Step w H w' H' → Hold w' M' H' → Env w' σ' ρ' → wipe σ' vs = wipe σ vs → Qu ρ' M' → Q σ' H') → g v σ H Q
theorem lgv_name {vs : List Nat} {i : Nat} (hi : i ∈ vs) : LGv vs (gName i) (wName i) := fun _ _ _ _ _ _ _ _ _ h e r hq o => o _ _ _ _ _ (Step.refl _ _) h (e.set r i) (wipe_set hi) hq
theorem lgvs_nil {vs : List Nat} : LGvs vs gNil wgNil := fun _ _ _ _ _ _ _ _ _ h e r hq o => by
  obtain ⟨rfl, q⟩ := hq
  cases r
  exact ⟨rfl, o _ _ _ _ _ (Step.refl _ _) h e rfl q⟩
theorem lgvs_cons {vs : List Nat} {g : TG} {wg : WG} {gr : TGs} {wr : WGs} (hg : LGv vs g wg) (hr : LGvs vs gr wr) : LGvs vs (gCons g gr) (wgCons wg wr) := fun _ _ _ _ _ _ _ _ _ h e r hq o => by
  obtain ⟨u, us, rfl, q⟩ := hq
  cases r with
  | cons r rs => exact ⟨_, _, rfl, hg h e r q fun _ _ _ _ _ s1 h1 e1 z1 q1 => hr h1 e1 (RUs.grow s1.grow rs) q1 fun _ _ _ _ _ s2 h2 e2 z2 q2 => o _ _ _ _ _ (s1.trans h1 s2) h2 e2 (z2.trans z1) q2⟩
theorem lgv_tup {vs : List Nat} {K : PySem.W.Frag} {n : Nat} {gr : TGs} {wr : WGs} (hr : LGvs vs gr wr) : LGv vs (gTup K n gr) (wgTup n wr) := fun _ _ _ _ _ _ _ _ _ h e r hq o => by
  obtain ⟨us, e1, hl, q⟩ := hq
  obtain ⟨a, xs, rfl, ha, rs⟩ := tupU_ok h r e1
  exact ⟨a, xs, rfl, SqT.of ha, by rw [← Paired.length rs]; exact hl, hr h e rs q o⟩
/-- an object of the code's own beside the cells -/
structure Prv (w : Wd) (H : Hp) (D : Addr) (acc : List U) : Prop where
  at_ : ∃ vs, H D = some (.lst vs) ∧ RUs w acc vs
  F : w.F D = none
  th : D ∉ w.th
theorem Prv.step {w w' : Wd} {H H' : Hp} {D : Addr} {acc : List U} (p : Prv w H D acc) (s : Step w H w' H') : Prv w' H' D acc := by
  obtain ⟨vs, h1, h2⟩ := p.at_
  refine ⟨⟨vs, s.fr _ _ h1 p.th, RUs.grow s.grow h2⟩, ?_, fun m => ?_⟩
  · cases e : w'.F D with
    | none => rfl
    | some o =>
      rcases s.own D o p.F e with q | q
      · rw [h1] at q; cases q
      · exact absurd q p.th
  · obtain ⟨t, e, ht⟩ := s.th
    rw [e] at m
    rcases List.mem_append.mp m with q | q
    · exact p.th q
    · have := ht D q
      rw [h1] at this; cases this
theorem Hold.prv {w : Wd} {M : List Ob} {H : Hp} {D : Addr} {o : HO} (h : Hold w M H) (hF : w.F D = none) (ht : D ∉ w.th) : Hold w M (upd H D o) := by
  refine ⟨h.len, h.nd, fun a u e => ?_, fun n a m e1 e2 => ?_⟩
  · rw [upd_ne (ne_of_none e hF)]; exact h.sub a u e
  · obtain ⟨u, e3, e4⟩ := h.cell n a m e1 e2
    have ha : a ≠ D := fun q => ht (by rw [← q]; exact List.mem_of_getElem? e1)
    exact ⟨u, by rw [upd_ne ha]; exact e3, e4⟩
theorem Step.prv {w w' : Wd} {H H' : Hp} {D : Addr} {o : HO} (s : Step w H w' H') (hD : H D = none) : Step w H w' (upd H' D o) :=
  ⟨s.F, s.th, fun a u e n => by rw [upd_ne (ne_of_none e hD)]; exact s.fr a u e n, s.own⟩
theorem Hold.prvPut {w : Wd} {M : List Ob} {H : Hp} {D : Addr} {o : HO} (h : Hold w M H) (hF : w.F D = none) (ht : D ∉ w.th) (ho : H D = some o) : Hold (w.put D o) M H := by
  refine ⟨h.len, h.nd, fun a u e => ?_, fun n a m e1 e2 => ?_⟩
  · by_cases ha : a = D
    · subst ha; rw [Wd.putF] at e; rw [ho]; exact e
    · rw [Wd.putF_ne ha] at e; exact h.sub a u e
  · obtain ⟨u, e3, e4⟩ := h.cell n a m e1 e2
    have ha : a ≠ D := fun q => ht (by rw [← q]; exact List.mem_of_getElem? (show w.th[n]? = some a from e1))
    exact ⟨u, e3, e4.imp id fun ⟨q1, q2⟩ => ⟨by rw [Wd.putF_ne ha]; exact q1, q2.grow (Grow.put hF)⟩⟩
theorem Step.prvPut {w w' : Wd} {H H' : Hp} {D : Addr} {o : HO} (s : Step w H w' H') (hD : H D = none) (hF : w'.F D = none) : Step w H (w'.put D o) H' := by
  refine ⟨s.F.trans (same_put hF), s.th, s.fr, fun a u e1 e2 => ?_⟩
  by_cases ha : a = D
  · subst ha; exact .inl hD
  · rw [Wd.putF_ne ha] at e2; exact s.own a u e1 e2
theorem Step.none_back {w w' : Wd} {M' : List Ob} {H H' : Hp} {D : Addr} (s : Step w H w' H') (h : Hold w' M' H') (hD : H' D = none) : H D = none := by
  refine DL.none_back (fun o e => s.fr D o e fun m => ?_) hD
  obtain ⟨t, q, _⟩ := s.th
  obtain ⟨o, e⟩ := h.live (a := D) (by rw [q]; exact List.mem_append_left _ m)
  rw [hD] at e; cases e

abbrev WK := Rho → List Ob → List U → (List U → List Ob → Prop) → Prop
/-- the turns of a comprehension: k fills the list -/
def wLcGo (G : List Ob → Prop) (wg : WG) (k : WK) (ρ : Rho) : List U → List U → List Ob → (List U → List Ob → Prop) → Prop
  | [], acc, M, Q => G M ∧ Q acc M
  | u :: us, acc, M, Q => G M ∧ wg u ρ M fun ρ1 M1 => k ρ1 M1 acc fun acc' M2 => wLcGo G wg k ρ us acc' M2 Q
theorem wLcGo_G {G : List Ob → Prop} {wg : WG} {k : WK} {ρ : Rho} : ∀ {us acc : List U} {M : List Ob} {Q : List U → List Ob → Prop}, wLcGo G wg k ρ us acc M Q → G M
  | [], _, _, _, h => h.1
  | _ :: _, _, _, _, h => h.1
theorem wLcGo_rec {G : List Ob → Prop} {wg : WG} {k : WK} {ρ : Rho} {Q : List U → List Ob → Prop} (I : List U → List U → List Ob → Prop) (h0 : ∀ acc M, I [] acc M → G M ∧ Q acc M)
    (h1 : ∀ u us, (∀ acc M, I us acc M → wLcGo G wg k ρ us acc M Q) → ∀ acc M, I (u :: us) acc M → G M ∧ wg u ρ M fun ρ1 M1 => k ρ1 M1 acc fun acc' M2 => wLcGo G wg k ρ us acc' M2 Q) :
    ∀ us acc M, I us acc M → wLcGo G wg k ρ us acc M Q := by
  intro us
  induction us with
  | nil => intro acc M h; exact h0 acc M h
  | cons u us ih => intro acc M h; exact h1 u us ih acc M h
/-- one clause: the test, the element -/
def kElt (wt : WT) (we : WE) : WK := fun ρ M acc Q => wt ρ M fun b M2 => if b = true then we ρ M2 fun x M3 => acc.length < sizeLine ∧ Q (acc ++ [x]) M3 else Q acc M2
/-- a second clause -/
def kFor (wt : WT) (ww : WI) (wg : WG) (k : WK) (vs1 : List Nat) : WK := fun ρ M acc Q => wt ρ M fun b M2 => if b = true then ww ρ M2 fun us G M3 => wLcGo G wg k (wipeR ρ vs1) us acc M3 Q else Q acc M2
/-- what the code's fill does -/
def LK (D : Addr) (f : L2.St → Hp → (Hp → Prop) → Prop) (k : WK) : Prop := ∀ ⦃w : Wd⦄ ⦃M : List Ob⦄ ⦃H : Hp⦄ ⦃σ : L2.St⦄ ⦃ρ : Rho⦄ ⦃acc : List U⦄ ⦃Qu : List U → List Ob → Prop⦄ ⦃N : Hp → Prop⦄, Hold w M H → Env w σ ρ → Prv w H D acc → k ρ M acc Qu →
  (∀ (acc' : List U) (M' : List Ob) (w' : Wd) (H' : Hp), (∀ {w0 : Wd} {H0 : Hp}, H0 D = none → Step w0 H0 w H → Step w0 H0 w' H') → Grow w w' → Hold w' M' H' → Prv w' H' D acc' → Qu acc' M' → N H') → f σ H N
def fElt (D : Addr) (tt : TT) (te : TE) : L2.St → Hp → (Hp → Prop) → Prop := fun σ2 H2 N => tt σ2 H2 fun b H3 => if b = true then te σ2 H3 fun y H4 => ∃ acc, H4 D = some (.lst acc) ∧ acc.length < sizeLine ∧ N (upd H4 D (.lst (acc ++ [y]))) else N H3
theorem lk_elt {D : Addr} {tt : TT} {te : TE} {wt : WT} {we : WE} (ht : LT tt wt) (he : LE te we) : LK D (fElt D tt te) (kElt wt we) := fun w M H σ ρ acc Qu N h e p hq o =>
  ht h e hq fun b M2 c w2 H2 s2 h2 r2 q2 => by
    have r : b = c := r2
    subst r
    cases b with
    | false => exact o _ _ _ _ (fun _ s => s.trans h s2) s2.grow h2 (p.step s2) q2
    | true =>
      refine he h2 (e.grow s2.grow) q2 fun x M3 y w3 H3 s3 h3 r3 q3 => ?_
      have s23 := s2.trans h2 s3
      have p3 := p.step s23
      obtain ⟨vs, hv, rv⟩ := p3.at_
      refine ⟨vs, hv, by rw [← Paired.length rv]; exact q3.1, ?_⟩
      exact o (acc ++ [x]) M3 w3 _ (fun hD s => (s.trans h s23).prv hD) s23.grow (h3.prv p3.F p3.th) ⟨⟨_, upd_same, paired_snoc rv r3⟩, p3.F, p3.th⟩ q3.2
/-- the loop of one clause -/
def fLoop (D : Addr) (J : It) (g : TG) (σ : L2.St) (vs : List Nat) (f : L2.St → Hp → (Hp → Prop) → Prop) (Qd : Hp → Prop) (W : Nat → Nat → Hp → Prop) : Prop := ∀ i m H, W i m H →
  (J.stop i H ∧ Qd H) ∨ (J.go i H ∧ ∃ Nx : Hp → Prop, (∀ H', Nx H' → ∃ m', m' < m ∧ W (i + 1) m' H') ∧ ∀ x H', J.yld i H x H' → g x (wipe σ vs) H' fun σ2 H2 => wipe σ2 vs = wipe σ vs ∧ f σ2 H2 Nx)
theorem loop_ok {D : Addr} {J : It} {g : TG} {wg : WG} {f : L2.St → Hp → (Hp → Prop) → Prop} {k : WK} {vs : List Nat} {σ : L2.St} {ρ : Rho} {us acc : List U} {G : List Ob → Prop} {w1 : Wd} {M1 : List Ob} {H1 : Hp} {Qu : List U → List Ob → Prop} {Qd : Hp → Prop}
    (hg : LGv vs g wg) (hk : LK D f k) (h1 : Hold w1 M1 H1) (e : Env w1 σ ρ) (p : Prv w1 H1 D acc) (j : JOk w1 J us G) (q : wLcGo G wg k (wipeR ρ vs) us acc M1 Qu)
    (o : ∀ (acc' : List U) (M' : List Ob) (w' : Wd) (H' : Hp), (∀ {w0 : Wd} {H0 : Hp}, H0 D = none → Step w0 H0 w1 H1 → Step w0 H0 w' H') → Grow w1 w' → Hold w' M' H' → Prv w' H' D acc' → Qu acc' M' → Qd H') :
    ∃ W : Nat → Nat → Hp → Prop, (∃ m, W 0 m H1) ∧ fLoop D J g σ vs f Qd W := by
  refine ⟨fun i m H' => m = us.length - i ∧ ∃ w' M' acc', (∀ {w0 : Wd} {H0 : Hp}, H0 D = none → Step w0 H0 w1 H1 → Step w0 H0 w' H') ∧ Grow w1 w' ∧ Hold w' M' H' ∧ Prv w' H' D acc' ∧ wLcGo G wg k (wipeR ρ vs) (us.drop i) acc' M' Qu,
    ⟨us.length, by simp, w1, M1, acc, fun _ s => s, Grow.refl _, h1, p, q⟩, ?_⟩
  rintro i m H' ⟨hm, w', M', acc', s', g', h', p', q'⟩
  by_cases hi' : i < us.length
  · right
    have hG := wLcGo_G q'
    rw [List.drop_eq_getElem_cons hi'] at q'
    refine ⟨j.go i g' h' hG hi', fun H2 => ∃ w2 M2 acc2, (∀ {w0 : Wd} {H0 : Hp}, H0 D = none → Step w0 H0 w1 H1 → Step w0 H0 w2 H2) ∧ Grow w1 w2 ∧ Hold w2 M2 H2 ∧ Prv w2 H2 D acc2 ∧ wLcGo G wg k (wipeR ρ vs) (us.drop (i + 1)) acc2 M2 Qu, ?_, fun v H2 y => ?_⟩
    · rintro H2 ⟨w2, M2, acc2, z⟩
      exact ⟨us.length - (i + 1), by omega, rfl, w2, M2, acc2, z⟩
    · obtain ⟨w2, s2, h2, r2⟩ := j.yld i g' h' hG (List.getElem?_eq_getElem hi') y
      have g2 := g'.trans s2.grow
      refine hg h2 ((e.wipe vs).grow g2) r2 q'.2 fun ρ3 M3 σ3 w3 H3 s3 h3 e3 z3 q3 => ?_
      have s23 := s2.trans h2 s3
      refine ⟨z3.trans ?_, hk h3 e3 (p'.step s23) q3 fun acc4 M4 w4 H4 s4 g4 h4 p4 q4 => ⟨w4, M4, acc4, fun hD s => s4 hD ((s' hD s).trans h' s23), (g2.trans s3.grow).trans g4, h4, p4, q4⟩⟩
      have ww : ∀ (vs us : List Nat) (τ : L2.St), (∀ i ∈ us, i ∈ vs) → wipe (wipe τ us) vs = wipe τ vs := by
        intro vs us
        induction us with
        | nil => intro τ _; rfl
        | cons u us ih =>
          intro τ hu
          show wipe ((wipe τ us).set u none) vs = wipe τ vs
          rw [wipe_set (hu u List.mem_cons_self), ih τ fun i hi => hu i (List.mem_cons_of_mem _ hi)]
      exact ww vs vs σ fun _ h => h
  · left
    rw [List.drop_of_length_le (by omega)] at q'
    exact ⟨j.stop i g' h' q'.1 (by omega), o _ _ _ _ s' g' h' p' q'.2⟩
end DL

namespace DL
open PySem L2
def fFor (D : Addr) (tt : TT) (wi : TI) (g : TG) (vs : List Nat) (f : L2.St → Hp → (Hp → Prop) → Prop) : L2.St → Hp → (Hp → Prop) → Prop := fun σ2 H2 N => tt σ2 H2 fun b H3 =>
  if b = true then wi σ2 H3 fun J H4 => ∃ W : Nat → Nat → Hp → Prop, (∃ m, W 0 m H4) ∧ fLoop D J g σ2 vs f N W else N H3
theorem lk_for {D : Addr} {tt : TT} {wt : WT} {wi : TI} {ww : WI} {g : TG} {wg : WG} {vs : List Nat} {f : L2.St → Hp → (Hp → Prop) → Prop} {k : WK} (ht : LT tt wt) (hi : LI wi ww) (hg : LGv vs g wg) (hk : LK D f k) : LK D (fFor D tt wi g vs f) (kFor wt ww wg k vs) :=
  fun {w M H σ ρ acc Qu N} h e p hq o =>
  ht h e hq fun b M2 c w2 H2 s2 h2 r2 q2 => by
    have r : b = c := r2
    subst r
    cases b with
    | false => exact o _ _ _ _ (fun _ s => s.trans h s2) s2.grow h2 (p.step s2) q2
    | true =>
      refine hi h2 (e.grow s2.grow) q2 fun us G M3 J w3 H3 s3 h3 j q3 => ?_
      have s23 := s2.trans h2 s3
      exact loop_ok hg hk h3 (e.grow s23.grow) (p.step s23) j q3 fun acc4 M4 w4 H4 s4 g4 h4 p4 q4 => o acc4 M4 w4 H4 (fun hD s => s4 hD (s.trans h s23)) (s23.grow.trans g4) h4 p4 q4
/-- a comprehension's list as data; as a new cell -/
def wLcD (ww : WI) (wg : WG) (k : WK) (vs : List Nat) : WE := fun ρ M Q => ww ρ M fun us G M1 => wLcGo G wg k (wipeR ρ vs) us [] M1 fun acc M2 => ∃ ds, dats acc = some ds ∧ Q (.d (.list ds)) M2
def wLcC (ww : WI) (wg : WG) (k : WK) (vs : List Nat) : WE := fun ρ M Q => ww ρ M fun us G M1 => wLcGo G wg k (wipeR ρ vs) us [] M1 fun acc M2 => ∃ ds, dats acc = some ds ∧ Q (.p M2.length) (M2 ++ [.lst ds])
theorem prv_put {w w' : Wd} {M' : List Ob} {H H' : Hp} {D : Addr} {acc : List U} {ds : List PyData} {Qu : U → List Ob → Prop} {Q : VK} (s : Step w H w' H') (hD : H D = none) (h : Hold w' M' H') (p : Prv w' H' D acc) (e : dats acc = some ds) (q : Qu (.d (.list ds)) M') (o : Out RU w H Qu Q) : Q (.ref D) H' := by
  obtain ⟨vs, hv, rv⟩ := p.at_
  have r := dats_ok rv e
  exact o _ _ _ _ _ (s.prvPut hD p.F) (h.prvPut p.F p.th hv) (RU.D (.lst Wd.putF (r.mono (same_put p.F)))) q
theorem Hold.prvCell {w : Wd} {M : List Ob} {H : Hp} {D : Addr} {o : HO} {m : Ob} (h : Hold w M H) (hF : w.F D = none) (ht : D ∉ w.th) (ho : H D = some o) (r : RO (w.cell D) m o) : Hold (w.cell D) (M ++ [m]) H := by
  refine ⟨by simp [Wd.cell, h.len], ?_, h.sub, fun n a m' e1 e2 => ?_⟩
  · refine List.nodup_append.mpr ⟨h.nd, by simp, fun a ha b hb => ?_⟩
    simp at hb; subst hb
    exact fun e => ht (e ▸ ha)
  · by_cases hn : n < w.th.length
    · rw [Wd.cell, List.getElem?_append_left hn] at e1
      rw [List.getElem?_append_left (by rw [← h.len]; exact hn)] at e2
      obtain ⟨u, e3, e4⟩ := h.cell n a m' e1 e2
      exact ⟨u, e3, e4.imp id fun ⟨q1, q2⟩ => ⟨q1, q2.grow Grow.cell⟩⟩
    · have hn' : n = w.th.length := by
        have := (List.getElem?_eq_some_iff.mp e1).1
        simp [Wd.cell] at this
        omega
      subst hn'
      simp [Wd.cell] at e1
      rw [h.len] at e2
      simp at e2
      subst e1; subst e2
      exact ⟨o, ho, .inr ⟨hF, r⟩⟩
theorem Step.prvCell {w w' : Wd} {H H' : Hp} {D : Addr} (s : Step w H w' H') (hD : H D = none) : Step w H (w'.cell D) H' := by
  obtain ⟨t, e, ht⟩ := s.th
  refine ⟨s.F, ⟨t ++ [D], by rw [Wd.cell, e, List.append_assoc], fun a ha => ?_⟩, s.fr, s.own⟩
  rcases List.mem_append.mp ha with q | q
  · exact ht a q
  · simp at q; subst q; exact hD
theorem prv_cell {w w' : Wd} {M' : List Ob} {H H' : Hp} {D : Addr} {acc : List U} {ds : List PyData} {Qu : U → List Ob → Prop} {Q : VK} (s : Step w H w' H') (hD : H D = none) (h : Hold w' M' H') (p : Prv w' H' D acc) (e : dats acc = some ds) (q : Qu (.p M'.length) (M' ++ [.lst ds])) (o : Out RU w H Qu Q) : Q (.ref D) H' := by
  obtain ⟨vs, hv, rv⟩ := p.at_
  have r := dats_ok rv e
  exact o _ _ _ _ _ (s.prvCell hD) (h.prvCell p.F p.th hv (RO.L r)) (RU.P (Wd.cell_at h)) q
section
variable {wi wi1 : TI} {ww ww1 : WI} {g g1 : TG} {wg wg1 : WG} {tt tt1 : TT} {wt wt1 : WT} {te : TE} {we : WE} {vs vs1 : List Nat}
theorem lc_begin {f : Addr → L2.St → Hp → (Hp → Prop) → Prop} {k : WK} {w : Wd} {M : List Ob} {H : Hp} {σ : L2.St} {ρ : Rho} {Qu : List U → List Ob → Prop} {Q : VK} (hi : LI wi ww) (hg : LGv vs g wg) (hk : ∀ D, LK D (f D) k) (h : Hold w M H) (e : Env w σ ρ)
    (q : ww ρ M fun us G M1 => wLcGo G wg k (wipeR ρ vs) us [] M1 Qu)
    (o : ∀ (D : Addr) (acc : List U) (M' : List Ob) (w' : Wd) (H' : Hp), H D = none → Step w H w' H' → Hold w' M' H' → Prv w' H' D acc → Qu acc M' → Q (.ref D) H') :
    wi σ H fun J H1 => ∀ D, H1 D = none → ∃ W : Nat → Nat → Hp → Prop, (∃ m, W 0 m (upd H1 D (.lst []))) ∧ fLoop D J g σ vs (f D) (fun H => Q (.ref D) H) W := by
  refine hi h e q fun us G M1 J w1 H1 s1 h1 j q1 D hD => ?_
  have hD0 := s1.none_back h1 hD
  refine loop_ok hg (hk D) (h1.prv (h1.newF hD) (h1.off hD)) (e.grow s1.grow) ⟨⟨[], upd_same, .nil⟩, h1.newF hD, h1.off hD⟩ j q1 fun acc' M' w' H' s' g' h' p' q' => ?_
  exact o D acc' M' w' H' hD0 (s' hD0 (s1.prv hD0)) h' p' q'
theorem le_lc (hi : LI wi ww) (hg : LGv vs g wg) (ht : LT tt wt) (he : LE te we) : LE (tLc wi g tt te vs) (wLcD ww wg (kElt wt we) vs) := fun w M H σ ρ Qu Q h e hq o =>
  lc_begin (f := fun D => fElt D tt te) hi hg (fun D => lk_elt ht he) h e hq fun D acc M' w' H' hD s h' p q => by
    obtain ⟨ds, e1, q⟩ := q
    exact prv_put s hD h' p e1 q o
theorem le_lcC (hi : LI wi ww) (hg : LGv vs g wg) (ht : LT tt wt) (he : LE te we) : LE (tLc wi g tt te vs) (wLcC ww wg (kElt wt we) vs) := fun w M H σ ρ Qu Q h e hq o =>
  lc_begin (f := fun D => fElt D tt te) hi hg (fun D => lk_elt ht he) h e hq fun D acc M' w' H' hD s h' p q => by
    obtain ⟨ds, e1, q⟩ := q
    exact prv_cell s hD h' p e1 q o
theorem le_lc2 (hi : LI wi ww) (hg : LGv vs g wg) (ht : LT tt wt) (hi1 : LI wi1 ww1) (hg1 : LGv vs1 g1 wg1) (ht1 : LT tt1 wt1) (he : LE te we) : LE (tLc2 wi g tt wi1 g1 tt1 te vs vs1) (wLcD ww wg (kFor wt ww1 wg1 (kElt wt1 we) vs1) vs) := fun w M H σ ρ Qu Q h e hq o =>
  lc_begin (f := fun D => fFor D tt wi1 g1 vs1 (fElt D tt1 te)) hi hg (fun D => lk_for ht hi1 hg1 (lk_elt ht1 he)) h e hq fun D acc M' w' H' hD s h' p q => by
    obtain ⟨ds, e1, q⟩ := q
    exact prv_put s hD h' p e1 q o
theorem le_lc2C (hi : LI wi ww) (hg : LGv vs g wg) (ht : LT tt wt) (hi1 : LI wi1 ww1) (hg1 : LGv vs1 g1 wg1) (ht1 : LT tt1 wt1) (he : LE te we) : LE (tLc2 wi g tt wi1 g1 tt1 te vs vs1) (wLcC ww wg (kFor wt ww1 wg1 (kElt wt1 we) vs1) vs) := fun w M H σ ρ Qu Q h e hq o =>
  lc_begin (f := fun D => fFor D tt wi1 g1 vs1 (fElt D tt1 te)) hi hg (fun D => lk_for ht hi1 hg1 (lk_elt ht1 he)) h e hq fun D acc M' w' H' hD s h' p q => by
    obtain ⟨ds, e1, q⟩ := q
    exact prv_cell s hD h' p e1 q o
end
/-! ### defs and their promises -/
abbrev DSp := List U → List Ob → (U → List Ob → Prop) → Prop
def liftSp (d : DSp) : Sp := fun vs H Q _ => ∃ (w : Wd) (M : List Ob) (us : List U) (Qu : U → List Ob → Prop), Hold w M H ∧ RUs w us vs ∧ d us M Qu ∧ Out RU w H Qu Q
/-- the world of a def: some of the caller's cells -/
theorem pure_call {w : Wd} {M : List Ob} {H : Hp} (h : Hold w M H) : Hold ⟨w.F, []⟩ [] H := ⟨rfl, .nil, h.sub, fun n a m e => by simp at e⟩
theorem pure_back {w w' : Wd} {M M' : List Ob} {H H' : Hp} (h : Hold w M H) (s : Step ⟨w.F, []⟩ H w' H') (h' : Hold w' M' H') : Hold ⟨w'.F, w.th⟩ M H' ∧ Step w H ⟨w'.F, w.th⟩ H' := by
  have nf : ∀ a, a ∈ w.th → w.F a = none → w'.F a = none := fun a ha e => by
    cases q : w'.F a with
    | none => rfl
    | some o =>
      rcases s.own a o e q with z | z
      · obtain ⟨o', e'⟩ := h.live ha
        rw [z] at e'; cases e'
      · cases z
  refine ⟨⟨h.len, h.nd, h'.sub, fun n a m e1 e2 => ?_⟩, ⟨s.F, ⟨[], by simp, by simp⟩, fun a o e n => s.fr a o e (by simp), fun a o e1 e2 => ?_⟩⟩
  · obtain ⟨o, e3, e4⟩ := h.cell n a m e1 e2
    exact ⟨o, s.fr a o e3 (by simp), e4.imp id fun ⟨q1, q2⟩ => ⟨nf a (List.mem_of_getElem? e1) q1, RO.grow (w := w) (w' := ⟨w'.F, w.th⟩) ⟨s.F, fun _ _ z => z⟩ q2⟩⟩
  · rcases s.own a o e1 e2 with z | z
    · exact .inl z
    · cases z
/-- a call that is handed data and hands back data -/
def wCallP (d : DSp) (dv : List PyData) (wr : WA) : WE := fun ρ M Q => wr ρ M fun us M1 => ∃ ds, dats us = some ds ∧ d ((ds ++ dv).map U.d) [] fun u Mc => ∃ z, u = .d z ∧ Q (.d z) M1
theorem le_callP {d : DSp} {dvs : List V} {dv : List PyData} {E : XK} {tr : TA} {wr : WA} (hd : ∀ w : Wd, RUs w (dv.map U.d) dvs) (hr : LA tr wr) : LE (tCall (liftSp d) dvs E tr) (wCallP d dv wr) := fun _ _ _ _ _ _ _ h e hq o =>
  hr h e hq fun us M1 vs w1 H1 s1 h1 r1 q1 => by
    obtain ⟨ds, e1, q⟩ := q1
    refine ⟨⟨w1.F, []⟩, [], _, _, pure_call h1, ?_, q, fun u Mc v w2 H2 s2 h2 r2 q2 => ?_⟩
    · rw [List.map_append]
      have r := RUs.of (w := ⟨w1.F, []⟩) (show RpL w1.F ds vs from dats_ok r1 e1)
      have app : ∀ {as bs : List U} {xs ys : List V} {w : Wd}, RUs w as xs → RUs w bs ys → RUs w (as ++ bs) (xs ++ ys) := by
        intro as bs xs ys w a
        induction a with
        | nil => intro b; exact b
        | cons h _ ih => intro b; exact .cons h (ih b)
      exact app r (hd _)
    · obtain ⟨z, rfl, q2⟩ := q2
      obtain ⟨h3, s3⟩ := pure_back h1 s2 h2
      exact (o.trans s1 h1) _ _ _ _ _ s3 h3 (RU.D (show Rp w2.F z v from r2)) q2
end DL

namespace DL
open PySem L2
/-! ### what is left behind a def -/
def okU (m : Nat) : U → Prop
  | .p n => n < m
  | _ => True
def okOb (m : Nat) : Ob → Prop
  | .lsp us => ∀ u ∈ us, okU m u
  | .tpp us => ∀ u ∈ us, okU m u
  | .dip kvs => ∀ p ∈ kvs, okU m p.2
  | .ins _ fs => ∀ p ∈ fs, okU m p.2
  | _ => True
def FinA (M0 : List Ob) (Qu : U → List Ob → Prop) (u : U) (M' : List Ob) : Prop := ∃ m, M0.length ≤ m ∧ m ≤ M'.length ∧ okU m u ∧ (∀ o ∈ M'.take m, okOb m o) ∧ Qu u (M'.take m)
def rnU (f : Nat → Nat) : U → U
  | .p n => .p (f n)
  | u => u
def rnO (f : Nat → Nat) : Ob → Ob
  | .lsp us => .lsp (us.map (rnU f))
  | .tpp us => .tpp (us.map (rnU f))
  | .dip kvs => .dip (kvs.map fun p => (p.1, rnU f p.2))
  | .ins C fs => .ins C (fs.map fun p => (p.1, rnU f p.2))
  | o => o
def inU (keep : List Nat) : U → Prop
  | .p n => n ∈ keep
  | _ => True
def inOb (keep : List Nat) : Ob → Prop
  | .lsp us => ∀ u ∈ us, inU keep u
  | .tpp us => ∀ u ∈ us, inU keep u
  | .dip kvs => ∀ p ∈ kvs, inU keep p.2
  | .ins _ fs => ∀ p ∈ fs, inU keep p.2
  | _ => True
/-- some cells are kept -/
def FinG (M0 : List Ob) (Qu : U → List Ob → Prop) (u : U) (M' : List Ob) : Prop := ∃ keep r : List Nat, keep = List.range M0.length ++ r ∧ keep.Nodup ∧ (∀ i ∈ keep, i < M'.length) ∧ inU keep u ∧ (∀ i ∈ keep, inOb keep (M'.getD i .dead)) ∧
  Qu (rnU (fun n => keep.idxOf n) u) (keep.map fun i => rnO (fun n => keep.idxOf n) (M'.getD i .dead))
def Fin' (M0 : List Ob) (Qu : U → List Ob → Prop) (u : U) (M' : List Ob) : Prop := FinA M0 Qu u M' ∨ FinG M0 Qu u M'
theorem paired_with {α β : Type} {R S : α → β → Prop} : ∀ {as : List α} {bs : List β}, Paired R as bs → (∀ a b, a ∈ as → R a b → S a b) → Paired S as bs
  | _, _, .nil, _ => .nil
  | _, _, .cons r t, k => .cons (k _ _ List.mem_cons_self r) (paired_with t fun a b h q => k a b (List.mem_cons_of_mem _ h) q)
section
variable {F : Hp} {th th' : List Addr}
theorem RU.cut {m : Nat} {u : U} {v : V} (r : RU ⟨F, th⟩ u v) (k : okU m u) : RU ⟨F, th.take m⟩ u v := by
  cases u with
  | d d => exact r
  | p n =>
    obtain ⟨a, ha, e⟩ := r
    refine ⟨a, ?_, e⟩
    show (th.take m)[n]? = some a
    rw [List.getElem?_take_of_lt k]; exact ha
  | v x => exact r
  | s K ns => exact r
theorem RO.cut {m : Nat} {b : Ob} {o : HO} (r : RO ⟨F, th⟩ b o) (k : okOb m b) : RO ⟨F, th.take m⟩ b o := by
  cases b with
  | lst ds => exact r
  | lsp us => obtain ⟨vs, e, r⟩ := r; exact ⟨vs, e, paired_with r fun a b h q => q.cut (k a h)⟩
  | tpp us => obtain ⟨vs, e, r⟩ := r; exact ⟨vs, e, paired_with r fun a b h q => q.cut (k a h)⟩
  | dic kvs => exact r
  | dip kvs => obtain ⟨vs, e, r⟩ := r; exact ⟨vs, e, paired_with r fun a b h q => ⟨q.1, q.2.cut (k a h)⟩⟩
  | dit kvs => exact r
  | ins C fs => obtain ⟨dx, vs, e, r⟩ := r; exact ⟨dx, vs, e, paired_with r fun a b h q => ⟨q.1, q.2.cut (k a h)⟩⟩
  | lkd _ _ => exact r
  | dead => exact trivial
end
theorem out_finA {w : Wd} {M : List Ob} {H : Hp} {Qu : U → List Ob → Prop} {Q : VK} (h : Hold w M H) (o : Out RU w H Qu Q) : Out RU w H (FinA M Qu) Q := fun u M' v w' H' s h' r ⟨m, hm, hm', ku, ko, q⟩ => by
  obtain ⟨F', th'⟩ := w'
  obtain ⟨t, et, ht⟩ := s.th
  have et' : th' = w.th ++ t := et
  have hl : w.th.length ≤ m := by rw [h.len]; exact hm
  refine o u (M'.take m) v ⟨F', th'.take m⟩ H' ⟨s.F, ⟨t.take (m - w.th.length), ?_, fun a ha => ht a (List.mem_of_mem_take ha)⟩, s.fr, s.own⟩ ?_ (r.cut ku) q
  · show th'.take m = _
    rw [et', List.take_append, List.take_of_length_le hl]
  · refine ⟨?_, ?_, h'.sub, fun n a b e1 e2 => ?_⟩
    · show (th'.take m).length = _
      have e : th'.length = M'.length := h'.len
      rw [List.length_take, List.length_take, e]
    · exact List.Sublist.nodup (List.take_sublist m th') h'.nd
    · have hn : n < m := by
        have := (List.getElem?_eq_some_iff.mp e2).1
        rw [List.length_take] at this
        omega
      have e1' : (th'.take m)[n]? = some a := e1
      rw [List.getElem?_take_of_lt hn] at e1'
      have e2' := e2
      rw [List.getElem?_take_of_lt hn] at e2'
      obtain ⟨ob, e3, e4⟩ := h'.cell n a b e1' e2'
      exact ⟨ob, e3, e4.imp id fun ⟨q1, q2⟩ => ⟨q1, RO.cut (F := F') (th := th') q2 (ko b (List.mem_of_getElem? e2))⟩⟩
theorem idx_get {keep : List Nat} {th : List Addr} {n : Nat} (h : n ∈ keep) : (keep.map fun i => th.getD i 0)[keep.idxOf n]? = some (th.getD n 0) := by
  have hl : keep.idxOf n < keep.length := List.idxOf_lt_length_of_mem h
  rw [List.getElem?_map, List.getElem?_eq_getElem hl, List.getElem_idxOf hl]; rfl
theorem RU.keep {F : Hp} {th : List Addr} {keep : List Nat} {u : U} {v : V} (r : RU ⟨F, th⟩ u v) (k : inU keep u) : RU ⟨F, keep.map fun i => th.getD i 0⟩ (rnU (fun n => keep.idxOf n) u) v := by
  cases u with
  | p n =>
    obtain ⟨a, ha, e⟩ := r
    have ha' : th[n]? = some a := ha
    refine ⟨a, ?_, e⟩
    show (keep.map fun i => th.getD i 0)[keep.idxOf n]? = some a
    rw [idx_get k, List.getD_eq_getElem?_getD, ha']; rfl
  | d d => exact r
  | v x => exact r
  | s K ns => exact r
theorem paired_mapL {α β γ : Type} {R : α → β → Prop} {S : γ → β → Prop} {f : α → γ} : ∀ {as : List α} {bs : List β}, Paired R as bs → (∀ a b, a ∈ as → R a b → S (f a) b) → Paired S (as.map f) bs
  | _, _, .nil, _ => .nil
  | _, _, .cons r t, k => .cons (k _ _ List.mem_cons_self r) (paired_mapL t fun a b h q => k a b (List.mem_cons_of_mem _ h) q)
theorem RO.keep {F : Hp} {th : List Addr} {keep : List Nat} {b : Ob} {o : HO} (r : RO ⟨F, th⟩ b o) (k : inOb keep b) : RO ⟨F, keep.map fun i => th.getD i 0⟩ (rnO (fun n => keep.idxOf n) b) o := by
  cases b with
  | lst ds => exact r
  | lsp us => obtain ⟨vs, e, r⟩ := r; exact ⟨vs, e, paired_mapL r fun a b h q => q.keep (k a h)⟩
  | tpp us => obtain ⟨vs, e, r⟩ := r; exact ⟨vs, e, paired_mapL r fun a b h q => q.keep (k a h)⟩
  | dic kvs => exact r
  | dip kvs => obtain ⟨vs, e, r⟩ := r; exact ⟨vs, e, paired_mapL r fun a b h q => ⟨q.1, q.2.keep (k a h)⟩⟩
  | dit kvs => exact r
  | ins C fs => obtain ⟨dx, vs, e, r⟩ := r; exact ⟨dx, vs, e, paired_mapL r fun a b h q => ⟨q.1, q.2.keep (k a h)⟩⟩
  | lkd _ _ => exact r
  | dead => exact trivial
theorem out_finG {w : Wd} {M : List Ob} {H : Hp} {Qu : U → List Ob → Prop} {Q : VK} (h : Hold w M H) (o : Out RU w H Qu Q) : Out RU w H (FinG M Qu) Q := fun u M' v w' H' s h' r ⟨keep, rr, ek, nd, lt, ku, ko, q⟩ => by
  obtain ⟨F', th'⟩ := w'
  obtain ⟨t, et, ht⟩ := s.th
  have et' : th' = w.th ++ t := et
  have hl' : th'.length = M'.length := h'.len
  have eold : (List.range M.length).map (fun i => th'.getD i 0) = w.th := by
    refine List.ext_getElem? fun i => ?_
    rw [List.getElem?_map]
    by_cases hi : i < M.length
    · have hi' : i < w.th.length := by rw [h.len]; exact hi
      rw [List.getElem?_range hi]
      show some (th'.getD i 0) = _
      rw [et', List.getD_eq_getElem?_getD, List.getElem?_append_left hi', List.getElem?_eq_getElem hi']; rfl
    · rw [List.getElem?_eq_none (by simpa using hi), List.getElem?_eq_none (by rw [h.len]; omega)]; rfl
  have inj : ∀ i ∈ keep, ∀ j ∈ keep, th'.getD i 0 = th'.getD j 0 → i = j := fun i hi j hj e => by
    have li : i < th'.length := by rw [hl']; exact lt i hi
    have lj : j < th'.length := by rw [hl']; exact lt j hj
    have e' : th'[i] = th'[j] := by
      rw [List.getD_eq_getElem?_getD, List.getD_eq_getElem?_getD, List.getElem?_eq_getElem li, List.getElem?_eq_getElem lj] at e
      exact e
    apply Classical.byContradiction
    intro ne
    rcases Nat.lt_or_gt_of_ne ne with q | q
    · exact List.pairwise_iff_getElem.mp (List.nodup_iff_pairwise_ne.mp h'.nd) i j li lj q e'
    · exact List.pairwise_iff_getElem.mp (List.nodup_iff_pairwise_ne.mp h'.nd) j i lj li q e'.symm
  refine o _ (keep.map fun i => rnO (fun n => keep.idxOf n) (M'.getD i .dead)) v ⟨F', keep.map fun i => th'.getD i 0⟩ H' ⟨s.F, ⟨rr.map fun i => th'.getD i 0, ?_, fun a ha => ?_⟩, s.fr, s.own⟩ ?_ (r.keep ku) q
  · show keep.map _ = _
    rw [ek, List.map_append, eold]
  · obtain ⟨i, hi, rfl⟩ := List.mem_map.mp ha
    have hik : i ∈ keep := by rw [ek]; exact List.mem_append_right _ hi
    have hge : M.length ≤ i := by
      have n2 := nd
      rw [ek] at n2
      apply Classical.byContradiction
      intro hlt
      exact (List.nodup_append.mp n2).2.2 i (List.mem_range.mpr (by omega)) i hi rfl
    have li : i < th'.length := by rw [hl']; exact lt i hik
    apply ht
    rw [List.getD_eq_getElem?_getD, et', List.getElem?_append_right (by rw [h.len]; exact hge)]
    have l2 : i - w.th.length < t.length := by rw [et', List.length_append] at li; rw [h.len] at li ⊢; omega
    rw [List.getElem?_eq_getElem l2]
    exact List.getElem_mem l2
  · refine ⟨?_, ?_, h'.sub, fun n a b e1 e2 => ?_⟩
    · show (keep.map _).length = (keep.map _).length
      rw [List.length_map, List.length_map]
    · show (keep.map _).Nodup
      refine List.pairwise_map.mpr (List.Pairwise.imp_of_mem (fun {i j} hi hj ne e => ne (inj i hi j hj e)) nd)
    · have e1' : (keep.map fun i => th'.getD i 0)[n]? = some a := e1
      rw [List.getElem?_map] at e1' e2
      cases ei : keep[n]? with
      | none => rw [ei] at e1'; cases e1'
      | some i =>
        rw [ei] at e1' e2
        have hik : i ∈ keep := List.mem_of_getElem? ei
        have li : i < th'.length := by rw [hl']; exact lt i hik
        have lm : i < M'.length := lt i hik
        have ea : th'[i]? = some a := by
          have z : th'.getD i 0 = a := Option.some.inj e1'
          rw [List.getD_eq_getElem?_getD, List.getElem?_eq_getElem li] at z
          rw [List.getElem?_eq_getElem li]; exact congrArg some z
        have eb : rnO (fun n => keep.idxOf n) (M'.getD i .dead) = b := Option.some.inj e2
        have hM : M'[i]? = some (M'.getD i .dead) := by rw [List.getD_eq_getElem?_getD, List.getElem?_eq_getElem lm]; rfl
        obtain ⟨ob, e3, e4⟩ := h'.cell i a _ ea hM
        refine ⟨ob, e3, ?_⟩
        rcases e4 with e4 | ⟨e4, e5⟩
        · left; rw [← eb, e4]; rfl
        · right; rw [← eb]; exact ⟨e4, RO.keep (F := F') (th := th') e5 (ko i hik)⟩
theorem out_fin {w : Wd} {M : List Ob} {H : Hp} {Qu : U → List Ob → Prop} {Q : VK} (h : Hold w M H) (o : Out RU w H Qu Q) : Out RU w H (Fin' M Qu) Q := fun u M' v w' H' s h' r q =>
  q.elim (out_finA h o u M' v w' H' s h' r) (out_finG h o u M' v w' H' s h' r)
def startR (n : Nat) (us : List U) : Rho := us.map some ++ List.replicate (n - us.length) none
theorem env_start {w : Wd} {N : List Str} {us : List U} {vs : List V} (r : RUs w us vs) : Env w (L2.start N vs) (startR N.length us) := by
  have hl := Paired.length r
  refine ⟨by simp [L2.start, startR, hl], fun i u h => ?_⟩
  unfold startR at h
  by_cases hi : i < us.length
  · rw [List.getElem?_append_left (by simpa using hi), List.getElem?_map] at h
    have get : ∀ {us : List U} {vs : List V}, RUs w us vs → ∀ {j : Nat} {d : U}, us[j]? = some d → ∃ v, vs[j]? = some v ∧ RU w d v := by
      intro us vs r
      induction r with
      | nil => intro j d h; simp at h
      | cons h1 _ ih =>
        intro j d h
        cases j with
        | zero => simp at h; subst h; exact ⟨_, rfl, h1⟩
        | succ j => simpa using ih (by simpa using h)
    cases e : us[i]? with
    | none => rw [e] at h; cases h
    | some u' =>
      rw [e] at h
      have h' := Option.some.inj (Option.some.inj h)
      subst h'
      obtain ⟨v, h1, h2⟩ := get r e
      refine ⟨v, ?_, h2⟩
      unfold L2.start
      rw [List.getElem?_append_left (by rw [List.length_map, ← hl]; exact hi), List.getElem?_map, h1]; rfl
  · rw [List.getElem?_append_right (by simpa using hi)] at h
    have := List.mem_of_getElem? h
    rw [List.mem_replicate] at this
    cases this.2
/-- the body of a def -/
theorem body_ok {d : DSp} {N : List Str} {ts : TS} {ws : WS} {vs : List V} {H : Hp} {Q : VK} {E : XK} (hs : LS ts ws) (hd : ∀ us M Qu, d us M Qu → ws { nx := fun _ M' => Fin' M Qu (.d .none) M', rt := Fin' M Qu } (startR N.length us) M)
    (h : liftSp d vs H Q E) : ts { nx := fun _ H' => Q .non H', rt := Q } (L2.start N vs) H := by
  obtain ⟨w, M, us, Qu, hw, r, q, o⟩ := h
  have o' := out_fin hw o
  exact hs hw (env_start r) (hd us M Qu q) ⟨fun ρ' M' σ' w' H' s h' _ q' => o' _ _ _ _ _ s h' (RU.D .non) q', o', fun _ _ _ _ _ _ _ _ q => q.elim, fun _ _ _ _ _ _ _ _ q => q.elim⟩
theorem lift_len {d : DSp} {n : Nat} (h : ∀ us M Qu, d us M Qu → us.length = n) : ∀ vs H Q E, liftSp d vs H Q E → vs.length = n := by
  rintro vs H Q E ⟨w, M, us, Qu, _, r, q, _⟩
  rw [← Paired.length r]; exact h _ _ _ q
/-! ### a call that is handed cells -/
def wback : List Ob → List Nat → List Ob → List Ob
  | M, [], [] => M
  | M, [], m :: Mc => M ++ (m :: Mc)
  | M, i :: is, m :: Mc => wback (M.set i m) is Mc
  | M, _ :: _, [] => M
theorem wback_nil (M : List Ob) : ∀ Mc, wback M [] Mc = M ++ Mc
  | [] => by simp [wback]
  | _ :: _ => rfl
theorem wback_len : ∀ (is : List Nat) (M Mc : List Ob), is.length ≤ Mc.length → (wback M is Mc).length = M.length + (Mc.length - is.length)
  | [], M, Mc, _ => by rw [wback_nil]; simp
  | i :: is, M, [], h => by simp at h
  | i :: is, M, m :: Mc, h => by
    show (wback (M.set i m) is Mc).length = _
    rw [wback_len is _ _ (by simpa using h)]; simp
theorem wback_out : ∀ (is : List Nat) (M Mc : List Ob) (j : Nat), is.length ≤ Mc.length → j < M.length → j ∉ is → (wback M is Mc)[j]? = M[j]?
  | [], M, Mc, j, _, hj, _ => by rw [wback_nil, List.getElem?_append_left hj]
  | i :: is, M, [], j, h, _, _ => by simp at h
  | i :: is, M, m :: Mc, j, h, hj, hn => by
    show (wback (M.set i m) is Mc)[j]? = _
    rw [wback_out is _ _ j (by simpa using h) (by simpa using hj) fun q => hn (List.mem_cons_of_mem _ q), List.getElem?_set_ne fun q => hn (by rw [q]; exact List.mem_cons_self)]
theorem wback_in : ∀ (is : List Nat) (M Mc : List Ob) (k j : Nat), is.length ≤ Mc.length → j < M.length → is.Nodup → is[k]? = some j → (wback M is Mc)[j]? = Mc[k]?
  | [], _, _, k, j, _, _, _, e => by simp at e
  | i :: is, M, [], _, j, h, _, _, _ => by simp at h
  | i :: is, M, m :: Mc, k, j, h, hj, nd, e => by
    show (wback (M.set i m) is Mc)[j]? = _
    rw [List.nodup_cons] at nd
    cases k with
    | zero =>
      simp at e; subst e
      rw [wback_out is _ _ i (by simpa using h) (by simpa using hj) nd.1, List.getElem?_set_self hj]; rfl
    | succ k => rw [wback_in is _ _ k j (by simpa using h) (by simpa using hj) nd.2 (by simpa using e)]; rfl
theorem wback_new : ∀ (is : List Nat) (M Mc : List Ob) (j : Nat), is.length ≤ Mc.length → M.length ≤ j → (wback M is Mc)[j]? = Mc[is.length + (j - M.length)]?
  | [], M, Mc, j, _, hj => by rw [wback_nil, List.getElem?_append_right hj]; simp
  | i :: is, M, [], j, h, _ => by simp at h
  | i :: is, M, m :: Mc, j, h, hj => by
    show (wback (M.set i m) is Mc)[j]? = _
    rw [wback_new is _ _ j (by simpa using h) (by simpa using hj), List.length_set]
    have e : (i :: is).length + (j - M.length) = (is.length + (j - M.length)) + 1 := by simp; omega
    rw [e]; rfl
/-- the caller's number of the callee's cell -/
def outN (is : List Nat) (l k : Nat) : Nat := if k < is.length then is.getD k 0 else l + (k - is.length)
def inN (is : List Nat) (n : Nat) : Nat := is.idxOf n
theorem th_get {is : List Nat} {th : List Addr} {k : Nat} (h : ∀ i ∈ is, i < th.length) (hk : k < is.length) : (is.map fun i => th.getD i 0)[k]? = th[is.getD k 0]? := by
  have e : is.getD k 0 = is[k] := by simp [List.getD, List.getElem?_eq_getElem hk]
  have hl := h is[k] (List.getElem_mem hk)
  rw [List.getElem?_map, List.getElem?_eq_getElem hk, e, List.getElem?_eq_getElem hl]
  simp [List.getD, List.getElem?_eq_getElem hl]
/-- into the callee -/
theorem RU.into {F : Hp} {is : List Nat} {th : List Addr} (h : ∀ i ∈ is, i < th.length) {u : U} {v : V} (r : RU ⟨F, th⟩ (rnU (outN is th.length) u) v) : RU ⟨F, is.map fun i => th.getD i 0⟩ u v := by
  cases u with
  | d d => exact r
  | v x => exact r
  | s K ns => exact r
  | p k =>
    obtain ⟨a, ha, e⟩ := r
    refine ⟨a, ?_, e⟩
    have ha' : th[outN is th.length k]? = some a := ha
    by_cases hk : k < is.length
    · show (is.map fun i => th.getD i 0)[k]? = some a
      rw [th_get h hk]
      unfold outN at ha'
      rw [if_pos hk] at ha'; exact ha'
    · exfalso
      unfold outN at ha'
      rw [if_neg hk] at ha'
      have := (List.getElem?_eq_some_iff.mp ha').1
      omega
/-- back to the caller -/
theorem RU.back {F : Hp} {is : List Nat} {th t : List Addr} (h : ∀ i ∈ is, i < th.length) {u : U} {v : V} (r : RU ⟨F, (is.map fun i => th.getD i 0) ++ t⟩ u v) : RU ⟨F, th ++ t⟩ (rnU (outN is th.length) u) v := by
  cases u with
  | d d => exact r
  | v x => exact r
  | s K ns => exact r
  | p k =>
    obtain ⟨a, ha, e⟩ := r
    refine ⟨a, ?_, e⟩
    have ha' : ((is.map fun i => th.getD i 0) ++ t)[k]? = some a := ha
    show (th ++ t)[outN is th.length k]? = some a
    unfold outN
    by_cases hk : k < is.length
    · rw [if_pos hk]
      rw [List.getElem?_append_left (by simpa using hk), th_get h hk] at ha'
      exact th_mono ha'
    · rw [if_neg hk, List.getElem?_append_right (by omega)]
      rw [List.getElem?_append_right (by simpa using hk)] at ha'
      simpa using ha'
theorem mapP2 {α β γ : Type} {R : β → γ → Prop} {S : α → γ → Prop} {f : α → β} : ∀ {as : List α} {cs : List γ}, Paired R (as.map f) cs → (∀ a c, R (f a) c → S a c) → Paired S as cs
  | [], _, .nil, _ => .nil
  | _ :: _, _, .cons r t, k => .cons (k _ _ r) (mapP2 t k)
theorem mapP3 {α β γ : Type} {R : α → γ → Prop} {S : β → γ → Prop} {f : α → β} : ∀ {as : List α} {cs : List γ}, Paired R as cs → (∀ a c, R a c → S (f a) c) → Paired S (as.map f) cs
  | _, _, .nil, _ => .nil
  | _, _, .cons r t, k => .cons (k _ _ r) (mapP3 t k)
theorem RO.into {F : Hp} {is : List Nat} {th : List Addr} (h : ∀ i ∈ is, i < th.length) {m : Ob} {o : HO} (r : RO ⟨F, th⟩ (rnO (outN is th.length) m) o) : RO ⟨F, is.map fun i => th.getD i 0⟩ m o := by
  cases m with
  | lst ds => exact r
  | lsp us => obtain ⟨vs, e, r⟩ := r; exact ⟨vs, e, mapP2 r fun a c q => RU.into h q⟩
  | tpp us => obtain ⟨vs, e, r⟩ := r; exact ⟨vs, e, mapP2 r fun a c q => RU.into h q⟩
  | dic kvs => exact r
  | dip kvs => obtain ⟨vs, e, r⟩ := r; exact ⟨vs, e, mapP2 r fun a c q => ⟨q.1, RU.into h q.2⟩⟩
  | dit kvs => exact r
  | ins C fs => obtain ⟨dx, vs, e, r⟩ := r; exact ⟨dx, vs, e, mapP2 r fun a c q => ⟨q.1, RU.into h q.2⟩⟩
  | lkd _ _ => exact r
  | dead => exact trivial
theorem RO.back {F : Hp} {is : List Nat} {th t : List Addr} (h : ∀ i ∈ is, i < th.length) {m : Ob} {o : HO} (r : RO ⟨F, (is.map fun i => th.getD i 0) ++ t⟩ m o) : RO ⟨F, th ++ t⟩ (rnO (outN is th.length) m) o := by
  cases m with
  | lst ds => exact r
  | lsp us => obtain ⟨vs, e, r⟩ := r; exact ⟨vs, e, mapP3 r fun a c q => RU.back h q⟩
  | tpp us => obtain ⟨vs, e, r⟩ := r; exact ⟨vs, e, mapP3 r fun a c q => RU.back h q⟩
  | dic kvs => exact r
  | dip kvs => obtain ⟨vs, e, r⟩ := r; exact ⟨vs, e, mapP3 r fun a c q => ⟨q.1, RU.back h q.2⟩⟩
  | dit kvs => exact r
  | ins C fs => obtain ⟨dx, vs, e, r⟩ := r; exact ⟨dx, vs, e, mapP3 r fun a c q => ⟨q.1, RU.back h q.2⟩⟩
  | lkd _ _ => exact r
  | dead => exact trivial
end DL

namespace DL
open PySem L2
theorem call_into {w : Wd} {M : List Ob} {H : Hp} {is : List Nat} {cs : List Ob} (h : Hold w M H) (nd : is.Nodup) (hi : ∀ i ∈ is, i < M.length) (hc : cs.map (rnO (outN is M.length)) = is.map fun i => M.getD i .dead) :
    Hold ⟨w.F, is.map fun i => w.th.getD i 0⟩ cs H := by
  have hl : ∀ i ∈ is, i < w.th.length := fun i m => by rw [h.len]; exact hi i m
  have hcl : cs.length = is.length := by have := congrArg List.length hc; simpa using this
  have thk : ∀ {k : Nat} {a : Addr}, (is.map fun i => w.th.getD i 0)[k]? = some a → ∃ i, is[k]? = some i ∧ w.th[i]? = some a := fun {k a} e => by
    have hk : k < is.length := by simpa using (List.getElem?_eq_some_iff.mp e).1
    rw [th_get hl hk] at e
    have e2 : is.getD k 0 = is[k] := by simp [List.getD, List.getElem?_eq_getElem hk]
    exact ⟨is[k], List.getElem?_eq_getElem hk, by rw [← e2]; exact e⟩
  refine ⟨by show (is.map fun i => w.th.getD i 0).length = _; simp [hcl], ?_, h.sub, fun k a m e1 e2 => ?_⟩
  · show (is.map fun i => w.th.getD i 0).Nodup
    unfold List.Nodup
    rw [List.pairwise_iff_getElem]
    intro i j hil hjl hij e
    have ha := List.getElem?_eq_getElem hil
    have hb := List.getElem?_eq_getElem hjl
    rw [← e] at hb
    obtain ⟨x, hx1, hx2⟩ := thk ha
    obtain ⟨y, hy1, hy2⟩ := thk hb
    have hxy : x = y := by
      obtain ⟨l1, q1⟩ := List.getElem?_eq_some_iff.mp hx2
      obtain ⟨l2, q2⟩ := List.getElem?_eq_some_iff.mp hy2
      exact (List.getElem_inj h.nd).mp (q1.trans q2.symm)
    subst hxy
    obtain ⟨l1, q1⟩ := List.getElem?_eq_some_iff.mp hx1
    obtain ⟨l2, q2⟩ := List.getElem?_eq_some_iff.mp hy1
    have := (List.getElem_inj nd).mp (q1.trans q2.symm)
    omega
  · obtain ⟨i, hi1, hi2⟩ := thk e1
    have him := hi i (List.mem_of_getElem? hi1)
    have em : (cs.map (rnO (outN is M.length)))[k]? = some (M.getD i .dead) := by rw [hc, List.getElem?_map, hi1]; rfl
    rw [List.getElem?_map, e2] at em
    have em' : rnO (outN is M.length) m = M.getD i .dead := Option.some.inj em
    have eM : M[i]? = some (rnO (outN is M.length) m) := by
      rw [em', List.getElem?_eq_getElem him]
      simp [List.getD, List.getElem?_eq_getElem him]
    obtain ⟨o, e3, e4⟩ := h.cell i a _ hi2 eM
    refine ⟨o, e3, ?_⟩
    rcases e4 with e4 | ⟨q1, q2⟩
    · left
      cases m <;> first | rfl | (cases e4)
    · refine .inr ⟨q1, RO.into hl ?_⟩
      rw [h.len]; exact q2
theorem call_back {w w2 : Wd} {M Mc : List Ob} {H H2 : Hp} {is : List Nat} (h : Hold w M H) (nd : is.Nodup) (hi : ∀ i ∈ is, i < M.length) (s : Step ⟨w.F, is.map fun i => w.th.getD i 0⟩ H w2 H2) (h2 : Hold w2 Mc H2) :
    ∃ t, w2 = ⟨w2.F, (is.map fun i => w.th.getD i 0) ++ t⟩ ∧ Hold ⟨w2.F, w.th ++ t⟩ (wback M is (Mc.map (rnO (outN is M.length)))) H2 ∧ Step w H ⟨w2.F, w.th ++ t⟩ H2 := by
  have hl : ∀ i ∈ is, i < w.th.length := fun i m => by rw [h.len]; exact hi i m
  obtain ⟨t, et, ht⟩ := s.th
  obtain ⟨F2, th2⟩ := w2
  have et' : th2 = (is.map fun i => w.th.getD i 0) ++ t := et
  subst et'
  have hlen : is.length + t.length = Mc.length := by have := h2.len; simpa using this
  have hml : is.length ≤ (Mc.map (rnO (outN is M.length))).length := by rw [List.length_map]; omega
  -- where the callee's addresses stand
  have inth : ∀ {a : Addr}, a ∈ (is.map fun i => w.th.getD i 0) → ∃ k i, is[k]? = some i ∧ w.th[i]? = some a ∧ (is.map fun i => w.th.getD i 0)[k]? = some a := fun {a} m => by
    obtain ⟨k, hk⟩ := List.mem_iff_getElem?.mp m
    have hk' : k < is.length := by simpa using (List.getElem?_eq_some_iff.mp hk).1
    have e := hk
    rw [th_get hl hk'] at e
    have e2 : is.getD k 0 = is[k] := by simp [List.getD, List.getElem?_eq_getElem hk']
    exact ⟨k, is[k], List.getElem?_eq_getElem hk', by rw [← e2]; exact e, hk⟩
  have sub : ∀ {a : Addr}, a ∈ (is.map fun i => w.th.getD i 0) → a ∈ w.th := fun m => by
    obtain ⟨_, _, _, e, _⟩ := inth m
    exact List.mem_of_getElem? e
  refine ⟨t, rfl, ⟨?_, ?_, h2.sub, fun j a m e1 e2 => ?_⟩, ⟨s.F, ⟨t, rfl, ht⟩, fun a o e n => s.fr a o e fun m => n (sub m), fun a o e1 e2 => ?_⟩⟩
  · show (w.th ++ t).length = _
    rw [wback_len _ _ _ hml, List.length_append, List.length_map, h.len]; omega
  · show (w.th ++ t).Nodup
    have nd2 : ((is.map fun i => w.th.getD i 0) ++ t).Nodup := h2.nd
    refine List.nodup_append.mpr ⟨h.nd, (List.nodup_append.mp nd2).2.1, fun a ha b hb e => ?_⟩
    subst e
    obtain ⟨o, q⟩ := h.live ha
    rw [ht a hb] at q; cases q
  · by_cases hj : j < w.th.length
    · have e1' : w.th[j]? = some a := by
        have e1' : (w.th ++ t)[j]? = some a := e1
        rwa [List.getElem?_append_left hj] at e1'
      have hjM : j < M.length := by rw [← h.len]; exact hj
      by_cases hm : j ∈ is
      · obtain ⟨k, hk⟩ := List.mem_iff_getElem?.mp hm
        rw [wback_in is M _ k j hml hjM nd hk, List.getElem?_map] at e2
        cases q : Mc[k]? with
        | none => rw [q] at e2; cases e2
        | some m' =>
          rw [q] at e2
          have e2' : rnO (outN is M.length) m' = m := Option.some.inj e2
          have hk' := (List.getElem?_eq_some_iff.mp hk).1
          have e3 : ((is.map fun i => w.th.getD i 0) ++ t)[k]? = some a := by
            rw [List.getElem?_append_left (by simpa using hk'), th_get hl hk']
            have e4 : is.getD k 0 = j := by rw [List.getD, hk]; rfl
            rw [e4]; exact e1'
          obtain ⟨o, e5, e6⟩ := h2.cell k a m' e3 q
          refine ⟨o, e5, ?_⟩
          rcases e6 with e6 | ⟨q1, q2⟩
          · left; subst e6; rw [← e2']; rfl
          · refine .inr ⟨q1, ?_⟩
            rw [← e2', ← h.len]
            exact RO.back hl q2
      · rw [wback_out is M _ j hml hjM hm] at e2
        obtain ⟨o, e5, e6⟩ := h.cell j a m e1' e2
        have hna : a ∉ (is.map fun i => w.th.getD i 0) := fun q => by
          obtain ⟨k, i, hk, hia, _⟩ := inth q
          have hij : i = j := by
            obtain ⟨l1, q1⟩ := List.getElem?_eq_some_iff.mp hia
            obtain ⟨l2, q2⟩ := List.getElem?_eq_some_iff.mp e1'
            exact (List.getElem_inj h.nd).mp (q1.trans q2.symm)
          exact hm (by rw [← hij]; exact List.mem_of_getElem? hk)
        refine ⟨o, s.fr a o e5 hna, ?_⟩
        rcases e6 with e6 | ⟨q1, q2⟩
        · exact .inl e6
        · refine .inr ⟨?_, RO.grow (w := w) (w' := ⟨F2, w.th ++ t⟩) ⟨s.F, fun n b q => th_mono q⟩ q2⟩
          show F2 a = none
          cases q : F2 a with
          | none => rfl
          | some o' =>
            rcases s.own a o' q1 q with z | z
            · rw [e5] at z; cases z
            · exact absurd z hna
    · have hj' : w.th.length ≤ j := by omega
      have e1' : (w.th ++ t)[j]? = some a := e1
      rw [List.getElem?_append_right hj'] at e1'
      rw [wback_new is M _ j hml (by rw [← h.len]; exact hj'), List.getElem?_map] at e2
      cases q : Mc[is.length + (j - M.length)]? with
      | none => rw [q] at e2; cases e2
      | some m' =>
        rw [q] at e2
        have e2' : rnO (outN is M.length) m' = m := Option.some.inj e2
        have e3 : ((is.map fun i => w.th.getD i 0) ++ t)[is.length + (j - M.length)]? = some a := by
          rw [List.getElem?_append_right (by simp), ← h.len]
          simpa using e1'
        obtain ⟨o, e5, e6⟩ := h2.cell _ a m' e3 q
        refine ⟨o, e5, ?_⟩
        rcases e6 with e6 | ⟨q1, q2⟩
        · left; subst e6; rw [← e2']; rfl
        · refine .inr ⟨q1, ?_⟩
          rw [← e2', ← h.len]
          exact RO.back hl q2
  · rcases s.own a o e1 e2 with z | z
    · exact .inl z
    · exact .inr (sub z)
def allB (is : List Nat) (l : Nat) : Bool := match is with
  | [] => true
  | i :: is => Nat.ble (i + 1) l && allB is l
def outB (i : Nat) : List Nat → Bool
  | [] => true
  | j :: is => !Nat.beq i j && outB i is
def nodB : List Nat → Bool
  | [] => true
  | i :: is => outB i is && nodB is
theorem allB_ok : ∀ {is : List Nat} {l : Nat}, allB is l = true → ∀ i ∈ is, i < l
  | [], _, _, _, h => nomatch h
  | j :: is, l, h, i, hi => by
    have h' : (Nat.ble (j + 1) l && allB is l) = true := h
    rw [Bool.and_eq_true] at h'
    rcases List.mem_cons.mp hi with q | q
    · subst q; exact Nat.le_of_ble_eq_true h'.1
    · exact allB_ok h'.2 i q
theorem outB_ok {i : Nat} : ∀ {is : List Nat}, outB i is = true → i ∉ is
  | [], _, h => nomatch h
  | j :: is, h, hi => by
    have h' : (!Nat.beq i j && outB i is) = true := h
    rw [Bool.and_eq_true] at h'
    rcases List.mem_cons.mp hi with q | q
    · subst q
      have := h'.1
      simp at this
    · exact outB_ok h'.2 q
theorem nodB_ok : ∀ {is : List Nat}, nodB is = true → is.Nodup
  | [], _ => .nil
  | i :: is, h => by
    have h' : (outB i is && nodB is) = true := h
    rw [Bool.and_eq_true] at h'
    exact List.nodup_cons.mpr ⟨outB_ok h'.1, nodB_ok h'.2⟩
/-- a call that is handed the cells is -/
def wCallC (is : List Nat) (d : DSp) (dv : List PyData) (wr : WA) : WE := fun ρ M Q => wr ρ M fun us M1 => nodB is = true ∧ allB is M1.length = true ∧ (us.map (rnU (inN is))).map (rnU (outN is M1.length)) = us ∧
  (is.map fun i => rnO (inN is) (M1.getD i .dead)).map (rnO (outN is M1.length)) = (is.map fun i => M1.getD i .dead) ∧
  d (us.map (rnU (inN is)) ++ dv.map U.d) (is.map fun i => rnO (inN is) (M1.getD i .dead)) fun u Mc => Q (rnU (outN is M1.length) u) (wback M1 is (Mc.map (rnO (outN is M1.length))))
theorem rus_app {w : Wd} : ∀ {as bs : List U} {xs ys : List V}, RUs w as xs → RUs w bs ys → RUs w (as ++ bs) (xs ++ ys)
  | _, _, _, _, .nil, b => b
  | _, _, _, _, .cons h t, b => .cons h (rus_app t b)
theorem le_callC {is : List Nat} {d : DSp} {dvs : List V} {dv : List PyData} {E : XK} {tr : TA} {wr : WA} (hd : ∀ w : Wd, RUs w (dv.map U.d) dvs) (hr : LA tr wr) : LE (tCall (liftSp d) dvs E tr) (wCallC is d dv wr) := fun _ _ _ _ _ _ _ h e hq o =>
  hr h e hq fun us M1 vs w1 H1 s1 h1 r1 q1 => by
    obtain ⟨nd', hi', hu, hc, q⟩ := q1
    have nd := nodB_ok nd'
    have hi := allB_ok hi'
    have hl : ∀ i ∈ is, i < w1.th.length := fun i m => by rw [h1.len]; exact hi i m
    refine ⟨_, _, _, _, call_into h1 nd hi hc, ?_, q, fun u Mc v w2 H2 s2 h2 r2 q2 => ?_⟩
    · refine rus_app ?_ (hd _)
      rw [← hu] at r1
      exact mapP2 r1 fun a c r => by
        rw [← h1.len] at r
        exact RU.into hl r
    · obtain ⟨t, ew, h3, s3⟩ := call_back h1 nd hi s2 h2
      refine (o.trans s1 h1) _ _ _ _ _ s3 h3 ?_ q2
      rw [ew] at r2
      rw [← h1.len]
      exact RU.back hl r2
/-! ### a cell becomes data: said ahead of a statement, or of a value -/
/-- slot i's cell -/
def wFrz (i : Nat) (ws : WS) : WS := fun De ρ M => ∃ n ds, ρ[i]? = some (some (.p n)) ∧ M[n]? = some (.lst ds) ∧ ws De (ρ.set i (some (.d (.list ds)))) (M.set n .dead)
theorem Env.frz {w : Wd} {σ : L2.St} {ρ : Rho} {u : U} {v : V} {i : Nat} (e : Env w σ ρ) (hv : σ[i]? = some (some v)) (r : RU w u v) : Env w σ (ρ.set i (some u)) := by
  refine ⟨by rw [List.length_set]; exact e.len, fun j x h => ?_⟩
  by_cases hj : j = i
  · subst hj
    have hl : j < ρ.length := by
      have := (List.getElem?_eq_some_iff.mp h).1
      rw [List.length_set] at this; exact this
    rw [List.getElem?_set_self hl] at h
    cases h
    exact ⟨v, hv, r⟩
  · rw [List.getElem?_set_ne (fun q => hj q.symm)] at h
    exact e.at_ j x h
theorem frz_step {w : Wd} {M : List Ob} {H : Hp} {n : Nat} {v : V} {ds : List PyData} (h : Hold w M H) (r : RU w (.p n) v) (hm : M[n]? = some (.lst ds)) : ∃ w', Step w H w' H ∧ Hold w' (M.set n .dead) H ∧ RU w' (.d (.list ds)) v := by
  obtain ⟨a, o, rfl, ha, ho, vs, rfl, r1⟩ := cell_at h r hm (fun q => nomatch q)
  have h0 : Ob.lst ds ≠ .dead := fun q => nomatch q
  have hF : w.F a = none := by
    obtain ⟨_, _, e⟩ := h.cell n a _ ha hm
    rcases e with e | ⟨e, _⟩
    · cases e
    · exact e
  exact ⟨w.put a (.lst vs), Step.frz h ha hm h0, h.frz ha hm h0 ho, RU.D (.lst Wd.putF (r1.mono (same_put hF)))⟩
theorem ls_frz {i : Nat} {ts : TS} {ws : WS} (hs : LS ts ws) : LS ts (wFrz i ws) := fun _ _ _ _ _ _ _ h e hq o => by
  obtain ⟨n, ds, h1, h2, q⟩ := hq
  obtain ⟨v, hv, r⟩ := e.at_ _ _ h1
  obtain ⟨w', s, h', r'⟩ := frz_step h r h2
  exact hs h' ((e.grow s.grow).frz hv r') q (o.trans s h')
/-- the value's cell becomes data -/
def wFz (we : WE) : WE := fun ρ M Q => we ρ M fun x M1 => ∃ n ds, x = .p n ∧ M1[n]? = some (.lst ds) ∧ Q (.d (.list ds)) (M1.set n .dead)
theorem le_fz {te : TE} {we : WE} (he : LE te we) : LE te (wFz we) := fun _ _ _ _ _ _ _ h e hq o =>
  he h e hq fun x M1 v w1 H1 s1 h1 r1 q1 => by
    obtain ⟨n, ds, rfl, hm, q⟩ := q1
    obtain ⟨w', s, h', r'⟩ := frz_step h1 r1 hm
    exact o _ _ _ _ _ (s1.trans h1 s) h' r' q
/-! ### x op= e of a name -/
def LIp (t : TIp) (wr : R2') : Prop := LR t wr
def wAug (i : Nat) (we : WE) (wr : R2') : WS := fun De ρ M => ∃ x, ρ[i]? = some (some x) ∧ we ρ M fun y M1 => wr x y M1 fun z M2 => De.nx (ρ.set i (some z)) M2
theorem ls_aug {i : Nat} {te : TE} {we : WE} {t : TIp} {wr : R2'} (he : LE te we) (hr : LR t wr) : LS (tAug i te t) (wAug i we wr) := fun _ _ _ _ _ _ _ h e hq o => by
  obtain ⟨x, hx, q⟩ := hq
  obtain ⟨v, hv, r⟩ := e.at_ _ _ hx
  exact ⟨v, hv, he h e q fun y M1 vy w1 H1 s1 h1 r1 q1 => hr h1 (r.grow s1.grow) r1 q1 fun z M2 vz w2 H2 s2 h2 r2 q2 => o.nx _ _ _ _ _ (s1.trans h1 s2) h2 ((e.grow (s1.trans h1 s2).grow).set r2 i) q2⟩
/-- list += list, in place -/
def wExtIp : R2' := fun x y M Q => ∃ n ds es, x = .p n ∧ M[n]? = some (.lst ds) ∧ view M y = some (.list es) ∧ ds.length + es.length ≤ sizeLine ∧ Q (.p n) (M.set n (.lst (ds ++ es)))
theorem lr_ext : LR rExt2 wExtIp := fun w M H x y vx vy Qu Q h rx ry hq o => by
  obtain ⟨n, ds, es, rfl, hm, hv, hl, q⟩ := hq
  obtain ⟨a, ob, rfl, ha, ho, ws, rfl, r1⟩ := cell_at h rx hm (fun q => nomatch q)
  obtain ⟨p, zs, rfl, hp, r2⟩ := view_ok h ry hv
  exact ⟨a, p, ws, zs, rfl, rfl, ho, hp, by rw [← r1.length, ← r2.length]; exact hl, set_out h ha hm (fun q => nomatch q) (RO.L (r1.append r2)) (RU.P ha) q o⟩
/-! ### x[i] = v of a list -/
def wSetL : U → U → U → List Ob → (List Ob → Prop) → Prop := fun x y z M Q => ∃ n ds i j d, x = .p n ∧ view M y = some (.int i) ∧ z = .d d ∧ M[n]? = some (.lst ds) ∧ ixN ds.length i = some j ∧ Q (M.set n (.lst (ds.set j d)))
def wgSub (wo wi : WE) (ws : U → U → U → List Ob → (List Ob → Prop) → Prop) : WG := fun u ρ M Q => wo ρ M fun x M1 => wi ρ M1 fun y M2 => ws x y u M2 fun M3 => Q ρ M3
def LSet (t : TSet) (ws : U → U → U → List Ob → (List Ob → Prop) → Prop) : Prop := ∀ ⦃w : Wd⦄ ⦃M : List Ob⦄ ⦃H : Hp⦄ ⦃x y z : U⦄ ⦃vx vy vz : V⦄ ⦃Qu : List Ob → Prop⦄ ⦃Q : Hp → Prop⦄, Hold w M H → RU w x vx → RU w y vy → RU w z vz → ws x y z M Qu →
  (∀ M' w' H', Step w H w' H' → Hold w' M' H' → Qu M' → Q H') → t vx vy vz H Q
theorem lg_sub {to ti : TE} {t : TSet} {wo wi : WE} {ws : U → U → U → List Ob → (List Ob → Prop) → Prop} (ho : LE to wo) (hi : LE ti wi) (hs : LSet t ws) : LG (gSub to ti t) (wgSub wo wi ws) := fun _ _ _ _ _ _ _ _ _ h e r hq o =>
  ho h e hq fun x M1 vx w1 H1 s1 h1 r1 q1 => hi h1 (e.grow s1.grow) q1 fun y M2 vy w2 H2 s2 h2 r2 q2 =>
    hs h2 (r1.grow s2.grow) r2 (r.grow (s1.trans h1 s2).grow) q2 fun M3 w3 H3 s3 h3 q3 => o _ _ _ _ _ ((s1.trans h1 s2).trans h2 s3) h3 (e.grow ((s1.trans h1 s2).trans h2 s3).grow) q3
theorem lset_list : LSet rSetL wSetL := fun w M H x y z vx vy vz Qu Q h rx ry rz hq o => by
  obtain ⟨n, ds, i, j, d, rfl, hv, rfl, hm, hj, q⟩ := hq
  obtain ⟨a, ob, rfl, ha, ho, ws, rfl, r1⟩ := cell_at h rx hm (fun q => nomatch q)
  refine ⟨a, ws, i, j, rfl, vw_int (view_ok h ry hv), ho, by rw [← r1.length]; exact hj, o _ _ _ (Step.set ha) (h.set ha hm (fun q => nomatch q) (RO.L (r1.set rz j))) q⟩
end DL

namespace DL
open PySem L2
theorem hu64 {A : Around} {k : Nat} (hr : Room k A) : A.units + 64 < cLine := by have := hr.un; omega
theorem hu65 {A : Around} {k : Nat} (hr : Room k A) : A.units + 65 < cLine := by have := hr.un; omega
/-! ### the script -/
def wLenS (K : PySem.W.Frag) : List U → List Ob → (U → List Ob → Prop) → Prop := fun us M Q => ∃ ns, us = [.s K ns] ∧ Q (.d (.int ns.length)) M
theorem lc_lenS {K : PySem.W.Frag} : LC (rLen K) (wLenS K) := fun w M H x vx Qu Q h rx hq o => by
  obtain ⟨ns, rfl, q⟩ := hq
  obtain ⟨v, rfl, r⟩ := rus1 rx
  obtain ⟨a, rfl, hs⟩ := r
  exact ⟨_, ns.length, rfl, .inl ⟨_, h.sub.seq hs, by simp⟩, o.here h (RU.D (.int _)) q⟩
def wIxS (K : PySem.W.Frag) : R2' := fun x y M Q => ∃ ns i z, x = .s K ns ∧ view M y = some (.int i) ∧ atI ns i = some z ∧ Q (.d (.int z)) M
theorem lr_ixS {K : PySem.W.Frag} : LR (rIx K) (wIxS K) := fun w M H x y vx vy Qu Q h rx ry hq o => by
  obtain ⟨ns, i, z, rfl, ei, hx, q⟩ := hq
  have vi := vw_int (view_ok h ry ei)
  obtain ⟨a, rfl, hs⟩ := rx
  refine .inl ⟨a, _, i, .int z, rfl, vi, h.sub.seq hs, ?_, o.here h (RU.D (.int _)) q⟩
  unfold atI at hx ⊢
  rw [List.length_map]
  cases e : ixN ns.length i with
  | none => rw [e] at hx; cases hx
  | some j =>
    rw [e] at hx
    have hx' : ns[j]? = some z := hx
    show (ns.map V.int)[j]? = some (V.int z)
    rw [List.getElem?_map, hx']; rfl
/-! ### - x -/
def wNeg : U → List Ob → (U → List Ob → Prop) → Prop := fun x M Q => ∃ i, view M x = some (.int i) ∧ Q (.d (.int (-i))) M
theorem lu_neg : LU (rU fun i => .int (-i)) wNeg := fun w M H x vx Qu Q h rx hq o => by
  obtain ⟨i, e, q⟩ := hq
  exact ⟨i, vw_int (view_ok h rx e), o.here h (RU.D (.int _)) q⟩
/-! ### truth -/
def truU (M : List Ob) (u : U) : Option (Bool × Prop) := match view M u with
  | some .none => some (false, True)
  | some (.bool b) => some (b, True)
  | some (.int i) => some (i != 0, True)
  | some (.str y) => some ((y.length : Int) != 0, y.length ≤ sizeLine)
  | some (.list ds) => some (!ds.isEmpty, True)
  | some (.tuple ds) => some (!ds.isEmpty, True)
  | _ => none
def wTru (we : WE) : WT := fun ρ M Q => we ρ M fun x M1 => ∃ b C, truU M1 x = some (b, C) ∧ C ∧ Q b M1
theorem lt_tru {K : PySem.W.Frag} {te : TE} {we : WE} (he : LE te we) : LT (fun σ H Q => te σ H fun x H' => ∃ k, TruV K x H' k ∧ Q k H') (wTru we) := fun _ _ _ _ _ _ _ h e hq o =>
  he h e hq fun x M1 v w1 H1 s1 h1 r1 q1 => by
    obtain ⟨b, C, et, hC, q⟩ := q1
    have fin := (o.trans s1 h1).here h1 (R := RB) rfl q
    unfold truU at et
    split at et
    · rename_i hv; cases et; rw [vw_none (view_ok h1 r1 hv)]; exact ⟨_, rfl, fin⟩
    · rename_i hv; cases et; rw [vw_bool (view_ok h1 r1 hv)]; exact ⟨_, rfl, fin⟩
    · rename_i hv; cases et; rw [vw_int (view_ok h1 r1 hv)]; exact ⟨_, rfl, fin⟩
    · rename_i hv; cases et; rw [vw_str (view_ok h1 r1 hv)]; exact ⟨_, ⟨hC, rfl⟩, fin⟩
    · rename_i ds hv
      cases et
      obtain ⟨p, vs, rfl, hp, r⟩ := view_ok h1 r1 hv
      exact ⟨_, .inl ⟨vs, SqL.of hp, by cases r <;> rfl⟩, fin⟩
    · rename_i ds hv
      cases et
      obtain ⟨p, vs, rfl, hp, r, _⟩ := vw_tup h1.sub (view_ok h1 r1 hv)
      exact ⟨_, .inr (.inl ⟨vs, SqT.of hp, by cases r <;> rfl⟩), fin⟩
    · cases et
/-! ### list(range(n)) -/
def rgD (n : Int) : List PyData := (List.range n.toNat).map fun i => PyData.int ((i : Nat) : Int)
theorem rg_rep {F : Hp} (j : Int) : RpL F (rgD j) (rgV 0 j) := by
  have e : rgV 0 j = (List.range j.toNat).map fun i => V.int ((i : Nat) : Int) := by unfold rgV; simp
  rw [e]
  have key : ∀ l : List Nat, RpL F (l.map fun i => PyData.int ((i : Nat) : Int)) (l.map fun i => V.int ((i : Nat) : Int)) := by
    intro l
    induction l with
    | nil => exact .nil
    | cons i l ih => exact .cons (.int _) ih
  exact key _
def wListRg (we : WE) : WE := fun ρ M Q => we ρ M fun x M1 => ∃ j, view M1 x = some (.int j) ∧ RgOk 0 j ∧ Q (.d (.list (rgD j))) M1
def wListRgC (we : WE) : WE := fun ρ M Q => we ρ M fun x M1 => ∃ j, view M1 x = some (.int j) ∧ RgOk 0 j ∧ Q (.p M1.length) (M1 ++ [.lst (rgD j)])
theorem le_listRange {te : TE} {we : WE} (he : LE te we) : LE (tLstRg (tRg1 te)) (wListRg we) := fun _ _ _ _ _ _ _ h e hq o =>
  he h e hq fun x M1 v w1 H1 s1 h1 r1 q1 => by
    obtain ⟨j, hv, hj, q⟩ := q1
    refine ⟨j, vw_int (view_ok h1 r1 hv), hj, fun p hp => ?_⟩
    exact (o.trans s1 h1) _ _ _ _ _ (Step.put h1 hp) (h1.put hp) (RU.D (.lst Wd.putF (rg_rep j))) q
theorem le_listRangeC {te : TE} {we : WE} (he : LE te we) : LE (tLstRg (tRg1 te)) (wListRgC we) := fun _ _ _ _ _ _ _ h e hq o =>
  he h e hq fun x M1 v w1 H1 s1 h1 r1 q1 => by
    obtain ⟨j, hv, hj, q⟩ := q1
    refine ⟨j, vw_int (view_ok h1 r1 hv), hj, fun p hp => ?_⟩
    exact (o.trans s1 h1) _ _ _ _ _ (Step.cell h1 hp) (h1.cell' hp (RO.L (rg_rep j))) (RU.P (Wd.cell_at h1)) q
/-! ### a, b = x, y -/
def wPar (i j : Nat) (wr : WA) : WS := fun De ρ M => wr ρ M fun us M1 => ∃ u t, us = [u, t] ∧ De.nx ((ρ.set i (some u)).set j (some t)) M1
theorem ls_par {i j : Nat} {tr : TA} {wr : WA} (hr : LA tr wr) : LS (tPar i j tr) (wPar i j wr) := fun _ _ _ _ _ _ _ h e hq o =>
  hr h e hq fun us M1 vs w1 H1 s1 h1 r1 q1 => by
    obtain ⟨u, t, rfl, q⟩ := q1
    obtain ⟨v, x, rfl, r, r'⟩ := rus2 r1
    exact ⟨v, x, rfl, o.nx _ _ _ _ _ s1 h1 (((e.grow s1.grow).set r i).set r' j) q⟩
def wPar3 (i j l : Nat) (wr : WA) : WS := fun De ρ M => wr ρ M fun us M1 => ∃ u t y, us = [u, t, y] ∧ De.nx (((ρ.set i (some u)).set j (some t)).set l (some y)) M1
theorem ls_par3 {i j l : Nat} {tr : TA} {wr : WA} (hr : LA tr wr) : LS (tPar3 i j l tr) (wPar3 i j l wr) := fun _ _ _ _ _ _ _ h e hq o =>
  hr h e hq fun us M1 vs w1 H1 s1 h1 r1 q1 => by
    obtain ⟨u, t, y, rfl, q⟩ := q1
    cases r1 with
    | cons r rr =>
      obtain ⟨v, x, rfl, r', r''⟩ := rus2 rr
      exact ⟨_, v, x, rfl, o.nx _ _ _ _ _ s1 h1 ((((e.grow s1.grow).set r i).set r' j).set r'' l) q⟩
/-! ### join of texts -/
def texts : List PyData → Option (List Str)
  | [] => some []
  | .str b :: ds => match texts ds with
    | some bs => some (b :: bs)
    | none => none
  | _ :: _ => none
theorem texts_ok {F : Hp} : ∀ {ds : List PyData} {vs : List V} {bs : List Str}, RpL F ds vs → texts ds = some bs → vs = bs.map V.str
  | _, _, _, .nil, e => by cases e; rfl
  | .str b :: ds, _, bs, .cons r t, e => by
    have e' : (match texts ds with | some bs => some (b :: bs) | none => none) = some bs := e
    cases q : texts ds with
    | none => rw [q] at e'; cases e'
    | some cs =>
      rw [q] at e'; cases e'
      cases r
      rw [texts_ok t q]; rfl
  | .none :: _, _, _, .cons _ _, e => by cases e
  | .int _ :: _, _, _, .cons _ _, e => by cases e
  | .bool _ :: _, _, _, .cons _ _, e => by cases e
  | .list _ :: _, _, _, .cons _ _, e => by cases e
  | .tuple _ :: _, _, _, .cons _ _, e => by cases e
  | .dict _ :: _, _, _, .cons _ _, e => by cases e
theorem texts_map : ∀ bs : List Str, texts (bs.map PyData.str) = some bs
  | [] => rfl
  | b :: bs => by
    show (match texts (bs.map PyData.str) with | some bs => some (b :: bs) | none => none) = _
    rw [texts_map bs]
def rJoin (K : PySem.W.Frag) : V → List V → Hp → VK → Prop := fun x xs H Q => ∃ a p, ∃ ys : List Str, x = .str a ∧ xs = [.ref p] ∧ (SqL K H p (ys.map V.str) ∨ SqT K H p (ys.map V.str)) ∧ (ys.map (·.length)).sum + ys.length * a.length ≤ 16777216 ∧ Q (.str (Txt.join a ys)) H
theorem mt_joinD {X : Cx} : MtR X "str.join" (rJoin X.K) := mt_join
def wJoin : WM := fun x ys M Q => ∃ a u ds bs, x = .d (.str a) ∧ ys = [u] ∧ itemsD M u = some ds ∧ texts ds = some bs ∧ (bs.map (·.length)).sum + bs.length * a.length ≤ 16777216 ∧ Q (.d (.str (Txt.join a bs))) M
theorem lm_join {K : PySem.W.Frag} : LM (rJoin K) wJoin := fun w M H x vx ys vs Qu Q h rx rs hq o => by
  obtain ⟨a, u, ds, bs, rfl, rfl, hv, ht, hl, q⟩ := hq
  obtain ⟨v, rfl, r⟩ := rus1 rs
  cases (show Rp w.F _ vx from rx)
  obtain ⟨p, vs, rfl, hs, r1⟩ := items_ok (K := K) h r hv
  have e := texts_ok r1 ht
  subst e
  exact ⟨a, p, bs, rfl, rfl, hs, hl, o.here h (RU.D (.str _)) q⟩
/-! ### new cells are left behind: at an expression, at a statement -/
def wTr (we : WE) : WE := fun ρ M Q => we ρ M (Fin' M Q)
theorem le_tr {te : TE} {we : WE} (he : LE te we) : LE te (wTr we) := fun _ _ _ _ _ _ _ h e hq o => he h e hq (out_fin h o)
def dropP (m : Nat) : Option U → Option U
  | some (.p n) => if n < m then some (.p n) else none
  | x => x
def Trim (M0 : List Ob) (Q : Rho → List Ob → Prop) (ρ : Rho) (M : List Ob) : Prop := M0.length ≤ M.length ∧ (∀ o ∈ M.take M0.length, okOb M0.length o) ∧ Q (ρ.map (dropP M0.length)) (M.take M0.length)
theorem trim_ok {w : Wd} {M : List Ob} {H : Hp} {Qu : Rho → List Ob → Prop} {Q : L2.St → Hp → Prop} (h : Hold w M H) (o : OutN w H Qu Q) : OutN w H (Trim M Qu) Q := fun ρ M' σ w' H' s h' e ⟨hm', ko, q⟩ => by
  obtain ⟨F', th'⟩ := w'
  obtain ⟨t, et, ht⟩ := s.th
  have et' : th' = w.th ++ t := et
  refine o _ (M'.take M.length) σ ⟨F', th'.take M.length⟩ H' ⟨s.F, ⟨[], ?_, by simp⟩, s.fr, s.own⟩ ?_ ?_ q
  · show th'.take M.length = _
    rw [et', ← h.len, List.take_append_of_le_length (Nat.le_refl _), List.take_length, List.append_nil]
  · refine ⟨?_, ?_, h'.sub, fun n a b e1 e2 => ?_⟩
    · show (th'.take M.length).length = _
      have e : th'.length = M'.length := h'.len
      rw [List.length_take, List.length_take, e]
    · exact List.Sublist.nodup (List.take_sublist M.length th') h'.nd
    · have hn : n < M.length := by
        have := (List.getElem?_eq_some_iff.mp e2).1
        rw [List.length_take] at this
        omega
      have e1' : (th'.take M.length)[n]? = some a := e1
      rw [List.getElem?_take_of_lt hn] at e1'
      have e2' := e2
      rw [List.getElem?_take_of_lt hn] at e2'
      obtain ⟨ob, e3, e4⟩ := h'.cell n a b e1' e2'
      exact ⟨ob, e3, e4.imp id fun ⟨q1, q2⟩ => ⟨q1, RO.cut (F := F') (th := th') q2 (ko b (List.mem_of_getElem? e2))⟩⟩
  · refine ⟨by rw [List.length_map]; exact e.len, fun i u hu => ?_⟩
    rw [List.getElem?_map] at hu
    cases er : ρ[i]? with
    | none => rw [er] at hu; cases hu
    | some x =>
      rw [er] at hu
      have hu' : dropP M.length x = some u := Option.some.inj hu
      cases x with
      | none => cases hu'
      | some x =>
        have hx : x = u ∧ okU M.length u := by
          cases x with
          | p n =>
            have hu2 : (if n < M.length then some (U.p n) else none) = some u := hu'
            by_cases hn : n < M.length
            · rw [if_pos hn] at hu2; cases hu2; exact ⟨rfl, hn⟩
            · rw [if_neg hn] at hu2; cases hu2
          | d d => cases hu'; exact ⟨rfl, trivial⟩
          | v d => cases hu'; exact ⟨rfl, trivial⟩
          | s K ns => cases hu'; exact ⟨rfl, trivial⟩
        obtain ⟨rfl, ku⟩ := hx
        obtain ⟨v, h1, h2⟩ := e.at_ i x er
        exact ⟨v, h1, RU.cut (F := F') (th := th') h2 ku⟩
def wTrS (ws : WS) : WS := fun De ρ M => ws ⟨Trim M De.nx, De.rt, Trim M De.bk, Trim M De.ct⟩ ρ M
theorem ls_tr {ts : TS} {ws : WS} (hs : LS ts ws) : LS ts (wTrS ws) := fun _ _ _ _ _ _ _ h e hq o => hs h e hq ⟨trim_ok h o.nx, o.rt, trim_ok h o.bk, trim_ok h o.ct⟩
/-! ### the law -/
def spLaw (K : PySem.W.Frag) : DSp := fun us M Q => ∃ ns : List Int, us = [.s K ns] ∧ M = [] ∧ ns.length ≤ 63 ∧ Q (.d (.bool true)) []
theorem law_start {K : PySem.W.Frag} {H : Hp} {a : Addr} {ns : List Int} (hl : ns.length ≤ 63) (hS : SqL K H a (ns.map V.int)) {E : XK} : liftSp (spLaw K) [.ref a] H (fun v _ => v = .bl true) E := by
  refine ⟨⟨H, []⟩, [], [.s K ns], fun u _ => u = .d (.bool true), ⟨rfl, .nil, Same.refl _, fun n a m e => by simp at e⟩, .cons ⟨a, rfl, hS⟩ .nil, ⟨ns, rfl, rfl, hl, rfl⟩, fun u M' v w' H' _ _ r q => ?_⟩
  subst q
  cases (show Rp w'.F _ v from r)
  rfl
end DL

namespace DL
open PySem L2
theorem bt_abs : bootBuiltins "abs" = some (.builtin "abs") := by decide +kernel
theorem bt_len : bootBuiltins "len" = some (.builtin "len") := by decide +kernel
theorem bt_max : bootBuiltins "max" = some (.builtin "max") := by decide +kernel
theorem bt_min : bootBuiltins "min" = some (.builtin "min") := by decide +kernel
theorem bt_int : bootBuiltins "int" = some (.type "int") := by decide +kernel
theorem bt_list : bootBuiltins "list" = some (.type "list") := by decide +kernel
theorem bt_tuple : bootBuiltins "tuple" = some (.type "tuple") := by decide +kernel
theorem bt_isinstance : bootBuiltins "isinstance" = some (.builtin "isinstance") := by decide +kernel
theorem bt_all : bootBuiltins "all" = some (.builtin "all") := by decide +kernel
theorem bt_any : bootBuiltins "any" = some (.builtin "any") := by decide +kernel
theorem bt_str : bootBuiltins "str" = some (.type "str") := by decide +kernel
theorem bt_sorted : bootBuiltins "sorted" = some (.builtin "sorted") := by decide +kernel
theorem bt_sum : bootBuiltins "sum" = some (.builtin "sum") := by decide +kernel
theorem bt_set : bootBuiltins "set" = some (.type "set") := by decide +kernel
theorem bt_dict : bootBuiltins "dict" = some (.type "dict") := by decide +kernel
theorem bt_bool : bootBuiltins "bool" = some (.type "bool") := by decide +kernel
theorem bt_repr : bootBuiltins "repr" = some (.builtin "repr") := by decide +kernel
theorem def_ok {X : Cx} {body : List Stmt} {d : DSp} {N : List Str} {ts : TS} {ws : WS} {vs : List V} {H : Hp} {Q : VK} {E : XK} (hs : LS ts ws) (hp : PSs X body ts) (h : liftSp d vs H Q E)
    (hd : ∀ us M Qu, d us M Qu → ws { nx := fun _ M' => Fin' M Qu (.d .none) M', rt := Fin' M Qu } (startR N.length us) M) : ∃ t, PSs X body t ∧ t { nx := fun _ H' => Q .non H', rt := Q } (L2.start N vs) H :=
  ⟨ts, hp, body_ok hs hd h⟩
/-- isinstance against built-in classes -/
inductive Cl where | bool | int | str | list | tuple
def Cl.name : Cl → String
  | .bool => "bool" | .int => "int" | .str => "str" | .list => "list" | .tuple => "tuple"
def isD : Cl → PyData → Bool
  | .bool, .bool _ => true
  | .int, .bool _ => true
  | .int, .int _ => true
  | .str, .str _ => true
  | .list, .list _ => true
  | .tuple, .tuple _ => true
  | _, _ => false
def noDict : PyData → Bool
  | .dict _ => false
  | _ => true
theorem kit_one {K : PySem.W.Frag} (c : Cl) (d : PyData) (h : noDict d = true) : ∃ n, kindD d = some n ∧ PySem.W.kitOne K (.type n) (.type c.name) = some (isD c d) := by
  cases d with
  | dict kvs => cases h
  | _ => exact ⟨_, rfl, by cases c <;> first | exact kit_ty (r := true) (by decide +kernel) | exact kit_ty (r := false) (by decide +kernel)⟩
def wIsiC (c : Cl) (we : WE) : WE := fun ρ M Q => we ρ M fun x M1 => ∃ d, view M1 x = some d ∧ noDict d = true ∧ Q (.d (.bool (isD c d))) M1
theorem le_isiC {K : PySem.W.Frag} (c : Cl) {te : TE} {we : WE} (he : LE te we) : LE (tCB (rIsi K) (tCons te (tCons (tC (.ty c.name)) tNil))) (wIsiC c we) := fun _ _ _ _ _ _ _ h e hq o =>
  he h e hq fun x M1 v w1 H1 s1 h1 r1 q1 => by
    obtain ⟨d, hv, hd, q⟩ := q1
    obtain ⟨n, hk, hb⟩ := kit_one (K := K) c d hd
    exact ⟨v, .ty c.name, .type n, .type c.name, _, rfl, .ty _, kind_ok h1.sub (view_ok h1 r1 hv) hk, hb, (o.trans s1 h1).here h1 (RU.D (.bl _)) q⟩
def wIsiT (c1 c2 : Cl) (we : WE) : WE := fun ρ M Q => we ρ M fun x M1 => ∃ d, view M1 x = some d ∧ noDict d = true ∧ Q (.d (.bool (isD c1 d || isD c2 d))) M1
theorem kit_two {K : PySem.W.Frag} {t : Value} {c1 c2 : Value} {a b : Bool} (h1 : PySem.W.kitOne K t c1 = some a) (h2 : PySem.W.kitOne K t c2 = some b) : PySem.W.kitAny K t [c1, c2] = some (a || b) := by
  refine kitAny_cons h1 (fun ha => kitAny_cons h2 (fun hb => ?_) fun hb => ?_) fun ha => ?_
  · subst ha hb; exact kitAny_nil
  · subst ha hb; rfl
  · subst ha; rfl
theorem le_isiT {K : PySem.W.Frag} (c1 c2 : Cl) {te : TE} {we : WE} (he : LE te we) : LE (tCB (rIsiT K) (tCons te (tCons (tTup (tCons (tC (.ty c1.name)) (tCons (tC (.ty c2.name)) tNil))) tNil))) (wIsiT c1 c2 we) := fun _ _ _ _ _ _ _ h e hq o =>
  he h e hq fun x M1 v w1 H1 s1 h1 r1 q1 => by
    obtain ⟨d, hv, hd, q⟩ := q1
    obtain ⟨n, hk, hb⟩ := kit_one (K := K) c1 d hd
    obtain ⟨n2, hk2, hb2⟩ := kit_one (K := K) c2 d hd
    rw [hk] at hk2; cases hk2
    refine ⟨(by show 2 ≤ sizeLine; decide), fun p hp => ?_⟩
    have hw := view_ok h1 r1 hv
    have sm : Same H1 (upd H1 p (.tup [.ty c1.name, .ty c2.name])) := same_put hp
    have e2 : Same w1.F (upd H1 p (.tup [.ty c1.name, .ty c2.name])) := h1.sub.trans sm
    have hd' : Vw w1.F (upd H1 p (.tup [.ty c1.name, .ty c2.name])) d v := by
      cases d with
      | list ds =>
        obtain ⟨a, vs, rfl, ha, r⟩ := hw
        exact ⟨a, vs, rfl, sm _ _ ha, r⟩
      | _ => exact hw
    refine ⟨v, p, [.ty c1.name, .ty c2.name], .type n, [.type c1.name, .type c2.name], _, rfl, upd_same, .cons (.ty _) (.cons (.ty _) .nil), kind_ok e2 hd' hk, kit_two hb hb2, ?_⟩
    exact (o.trans s1 h1) _ _ _ _ _ ((Step.refl w1 H1).prv hp) (h1.prv (h1.newF hp) (h1.off hp)) (RU.D (.bl _)) q
theorem fin_d {M0 M' : List Ob} {Qu : U → List Ob → Prop} {z : PyData} (hl : M0.length ≤ M'.length) (ho : ∀ o ∈ M'.take M0.length, okOb M0.length o) (q : Qu (.d z) (M'.take M0.length)) : Fin' M0 Qu (.d z) M' := .inl ⟨M0.length, Nat.le_refl _, hl, trivial, ho, q⟩
theorem fin_d0 {M' : List Ob} {Qu : U → List Ob → Prop} {z : PyData} (q : Qu (.d z) []) : Fin' [] Qu (.d z) M' := .inl ⟨0, Nat.le_refl _, Nat.zero_le _, trivial, by simp, by simpa using q⟩
/-- a word between a statement and the rest -/
def wCut (wt wu : WS) : WS := fun De ρ M => ∃ Mid : Rho → List Ob → Prop, wt { De with nx := Mid } ρ M ∧ ∀ ρ' M', Mid ρ' M' → wu De ρ' M'
theorem ls_cut {t u : TS} {wt wu : WS} (ht : LS t wt) (hu : LS u wu) : LS (tSeq t u) (wCut wt wu) := fun _ _ _ _ _ _ _ h e hq o => by
  obtain ⟨Mid, q1, q2⟩ := hq
  exact ht h e q1 ⟨fun _ _ _ _ _ s1 h1 e1 m => hu h1 e1 (q2 _ _ m) (o.trans s1 h1), o.rt, o.bk, o.ct⟩
/-- a test whose answer is open -/
theorem wite {b : Bool} {A B : Prop} (h1 : b = true → A) (h2 : b = false → B) : if b = true then A else B := by
  cases b with
  | true => rw [if_pos rfl]; exact h1 rfl
  | false => rw [if_neg (by decide)]; exact h2 rfl
theorem wiT {A B : Prop} (h : A) : if true = true then A else B := by rw [if_pos rfl]; exact h
theorem wiF {A B : Prop} (h : B) : if false = true then A else B := by rw [if_neg (by decide)]; exact h
theorem witeD {p : Prop} [Decidable p] {A B : Prop} (h1 : p → A) (h2 : ¬ p → B) : if decide p = true then A else B := wite (fun e => h1 (of_decide_eq_true e)) fun e => h2 (of_decide_eq_false e)
theorem eqv_s (x y : Str) : PyData.eqv (.str x) (.str y) = decide (x = y) := by simp only [PyData.eqv]; rw [Bool.eq_iff_iff, decide_eq_true_iff, beq_iff_eq]
theorem eqv_i (x y : Int) : PyData.eqv (.int x) (.int y) = decide (x = y) := by simp only [PyData.eqv]; rw [Bool.eq_iff_iff, decide_eq_true_iff, beq_iff_eq]
theorem wseq {x y : Str} {A B : Prop} (h1 : x = y → A) (h2 : x ≠ y → B) : if PyData.eqv (.str x) (.str y) = true then A else B := by rw [eqv_s]; exact witeD h1 h2
theorem wsne {x y : Str} {A B : Prop} (h1 : x ≠ y → A) (h2 : x = y → B) : if (!PyData.eqv (.str x) (.str y)) = true then A else B := by
  rw [eqv_s]; exact wite (fun e => h1 (by simpa using e)) fun e => h2 (by simpa using e)
theorem wieq {x y : Int} {A B : Prop} (h1 : x = y → A) (h2 : x ≠ y → B) : if PyData.eqv (.int x) (.int y) = true then A else B := by rw [eqv_i]; exact witeD h1 h2
theorem wine {x y : Int} {A B : Prop} (h1 : x ≠ y → A) (h2 : x = y → B) : if (!PyData.eqv (.int x) (.int y)) = true then A else B := by
  rw [eqv_i]; exact wite (fun e => h1 (by simpa using e)) fun e => h2 (by simpa using e)
/-! ### the rules, the written part said apart -/
section
variable {X : Cx} {K : PySem.W.Frag}
theorem x_add (h : X.K = K) : OpR X (binaryOp .Add) (rAddAll K) := h ▸ op_addAll
theorem x_eq (h : X.K = K) (hu : X.A.units + 64 < cLine) : OpR X (compareOp .Eq) (rEqAll K) := h ▸ op_eqAll hu
theorem x_ne (h : X.K = K) (hu : X.A.units + 64 < cLine) : OpR X (compareOp .NotEq) (rNeAll K) := h ▸ op_neAll hu
theorem x_in (h : X.K = K) (hu : X.A.units + 65 < cLine) : OpR X (compareOp .In) (rInAll K) := h ▸ op_inAll hu
theorem x_notIn (h : X.K = K) (hu : X.A.units + 65 < cLine) : OpR X (compareOp .NotIn) (rNotInAll K) := h ▸ op_notInAll hu
theorem x_ix (h : X.K = K) : IxR X (rIx K) := h ▸ ix_all
theorem x_sl (h : X.K = K) : SlR X (rSlAll K) := h ▸ sl_all
theorem x_len (h : X.K = K) : CallR X (.builtin "len") (rLen K) := h ▸ call_lenAll
theorem x_listOf (h : X.K = K) : CallR X (.type "list") (rListOf K) := h ▸ call_listOf
theorem x_tupOf (h : X.K = K) : CallR X (.type "tuple") (rTupOf K) := h ▸ call_tupOf
theorem x_all (h : X.K = K) (hc : X.calm = true) : CallR X (.builtin "all") (rAll K) := h ▸ cr_all hc
theorem x_any (h : X.K = K) (hc : X.calm = true) : CallR X (.builtin "any") (rAny K) := h ▸ cr_any hc
theorem x_isi (h : X.K = K) : CallR X (.builtin "isinstance") (rIsi K) := h ▸ call_isi
theorem x_isiT (h : X.K = K) : CallR X (.builtin "isinstance") (rIsiT K) := h ▸ call_isiT
theorem x_count (h : X.K = K) : MtR X "list.count" (rCntI K) := h ▸ mt_lcount
theorem x_join (h : X.K = K) : MtR X "str.join" (rJoin K) := h ▸ mt_joinD
end
end DL

namespace DL
open PySem L2
/-! ### dicts whose keys are ints and texts -/
abbrev KRel (F : Hp) : List (Key × PyData) → List (Key × V) → Prop := Paired (fun (p : Key × PyData) (q : Key × V) => p.1 = q.1 ∧ Rp F p.2 q.2)
def keyD : PyData → Option Key
  | .int i => some (.inl i)
  | .str x => some (.inr x)
  | _ => none
theorem keyD_ok {F H : Hp} {d : PyData} {v : V} {k : Key} (r : Vw F H d v) (e : keyD d = some k) : v = kV k := by
  cases d with
  | int i => cases (show Rp F _ v from r); cases e; rfl
  | str x => cases (show Rp F _ v from r); cases e; rfl
  | _ => cases e
def valD (kvs : List (Key × PyData)) (k : Key) : Option PyData := (kvs.find? fun kv => decide (kv.1 = k)).map (·.2)
theorem valD_ok {F : Hp} {kvs : List (Key × PyData)} {ks : List (Key × V)} (r : KRel F kvs ks) (k : Key) : (valD kvs k = none ∧ valV ks k = none) ∨ ∃ d v, valD kvs k = some d ∧ valV ks k = some v ∧ Rp F d v := by
  induction r with
  | nil => exact .inl ⟨rfl, rfl⟩
  | @cons p q ps qs h t ih =>
    obtain ⟨h1, h2⟩ := h
    by_cases e : p.1 = k
    · exact .inr ⟨p.2, q.2, by simp [valD, List.find?_cons, e], valV_pos (by rw [← h1]; exact e), h2⟩
    · have e' : ¬ q.1 = k := by rw [← h1]; exact e
      rw [valV_neg e', show valD (p :: ps) k = valD ps k by simp [valD, List.find?_cons, e]]
      exact ih
def putD (kvs : List (Key × PyData)) (k : Key) (v : PyData) : List (Key × PyData) :=
  if (kvs.any fun kv => decide (kv.1 = k)) = true then kvs.map (fun kv => if kv.1 = k then (kv.1, v) else kv) else kvs ++ [(k, v)]
theorem any_rel {F : Hp} {kvs : List (Key × PyData)} {ks : List (Key × V)} (r : KRel F kvs ks) (k : Key) : (kvs.any fun kv => decide (kv.1 = k)) = (ks.any fun kv => decide (kv.1 = k)) := by
  induction r with
  | nil => rfl
  | cons h t ih => rw [List.any_cons, List.any_cons, ih, h.1]
theorem putD_ok {F : Hp} {kvs : List (Key × PyData)} {ks : List (Key × V)} (r : KRel F kvs ks) {d : PyData} {v : V} (h : Rp F d v) (k : Key) : KRel F (putD kvs k d) (putK ks k v) := by
  unfold putD putK
  rw [any_rel r k]
  split
  · rename_i hh
    clear hh
    induction r with
    | nil => exact .nil
    | @cons p q ps qs h1 t ih =>
      rw [List.map_cons, List.map_cons]
      refine .cons ?_ ih
      rw [← h1.1]
      split
      · exact ⟨rfl, h⟩
      · exact ⟨h1.1.symm ▸ rfl, h1.2⟩
  · exact Paired.snoc r ⟨rfl, h⟩
theorem RO.Dic {w : Wd} {kvs : List (Key × PyData)} {ks : List (Key × V)} (h : KRel w.F kvs ks) : RO w (.dic kvs) (.dK ks) := ⟨ks, rfl, h⟩
/-- d[y] -/
def wDGet (we wy : WE) : WE := fun ρ M Q => we ρ M fun x M1 => wy ρ M1 fun y M2 => ∃ n kvs e k d, x = .p n ∧ M2[n]? = some (.dic kvs) ∧ view M2 y = some e ∧ keyD e = some k ∧ valD kvs k = some d ∧ Q (.d d) M2
theorem le_dget {te ty : TE} {we wy : WE} (he : LE te we) (hy : LE ty wy) : LE (tDGet te ty) (wDGet we wy) := fun _ _ _ _ _ _ _ h e hq o =>
  he h e hq fun x M1 v w1 H1 s1 h1 r1 q1 => hy h1 (e.grow s1.grow) q1 fun y M2 v2 w2 H2 s2 h2 r2 q2 => by
    obtain ⟨n, kvs, ey, k, d, rfl, hm, hv, hk, hd, q⟩ := q2
    obtain ⟨a, ob, rfl, ha, ho, ks, rfl, r⟩ := cell_at h2 (r1.grow s2.grow) hm (fun q => nomatch q)
    have ek := keyD_ok (view_ok h2 r2 hv) hk
    subst ek
    rcases valD_ok r k with ⟨z, _⟩ | ⟨d', v', z1, z2, z3⟩
    · rw [hd] at z; cases z
    · rw [hd] at z1; cases z1
      refine ⟨a, v', rfl, ?_, ((o.trans s1 h1).trans s2 h2).here h2 (RU.D z3) q⟩
      rw [← z2]; exact DGet.k ho
/-- d.get(y, z) -/
def wDGet2 (we wy wz : WE) : WE := fun ρ M Q => we ρ M fun x M1 => ∃ n kvs1, x = .p n ∧ M1[n]? = some (.dic kvs1) ∧ wy ρ M1 fun y M2 => wz ρ M2 fun z M3 => ∃ kvs e k, M3[n]? = some (.dic kvs) ∧ view M3 y = some e ∧ keyD e = some k ∧
  (∀ d, valD kvs k = some d → Q (.d d) M3) ∧ (valD kvs k = none → Q z M3)
theorem le_dget2 {te ty tz : TE} {we wy wz : WE} (he : LE te we) (hy : LE ty wy) (hz : LE tz wz) : LE (tDGet2 te ty tz) (wDGet2 we wy wz) := fun _ _ _ _ _ _ _ h e hq o =>
  he h e hq fun x M1 v w1 H1 s1 h1 r1 q1 => by
    obtain ⟨n, kvs1, rfl, hm1, q1⟩ := q1
    obtain ⟨a, ob, rfl, ha, ho, ks, rfl, r⟩ := cell_at h1 r1 hm1 (fun q => nomatch q)
    refine ⟨a, rfl, .inl ⟨ks, .inl ho⟩, hy h1 (e.grow s1.grow) q1 fun y M2 v2 w2 H2 s2 h2 r2 q2 => hz h2 ((e.grow s1.grow).grow s2.grow) q2 fun z M3 v3 w3 H3 s3 h3 r3 q3 => ?_⟩
    obtain ⟨kvs, ey, k, hm, hv, hk, qs, qn⟩ := q3
    obtain ⟨a', ob, ea, ha, ho, ks, rfl, r⟩ := cell_at h3 ((r1.grow s2.grow).grow s3.grow) hm (fun q => nomatch q)
    cases ea
    have ek := keyD_ok (view_ok h3 (r2.grow s3.grow) hv) hk
    subst ek
    have o3 := ((o.trans s1 h1).trans s2 h2).trans s3 h3
    rcases valD_ok r k with ⟨z1, z2⟩ | ⟨d', v', z1, z2, z3⟩
    · exact ⟨none, by rw [← z2]; exact DGet.k ho, o3.here h3 r3 (qn z1)⟩
    · exact ⟨some v', by rw [← z2]; exact DGet.k ho, o3.here h3 (RU.D z3) (qs _ z1)⟩
/-- y in d -/
def wDIn (wy we : WE) : WE := fun ρ M Q => wy ρ M fun y M1 => we ρ M1 fun x M2 => ∃ n kvs e k, x = .p n ∧ M2[n]? = some (.dic kvs) ∧ view M2 y = some e ∧ keyD e = some k ∧ Q (.d (.bool (valD kvs k).isSome)) M2
def wDNotIn (wy we : WE) : WE := fun ρ M Q => wy ρ M fun y M1 => we ρ M1 fun x M2 => ∃ n kvs e k, x = .p n ∧ M2[n]? = some (.dic kvs) ∧ view M2 y = some e ∧ keyD e = some k ∧ Q (.d (.bool (!(valD kvs k).isSome))) M2
theorem isSome_rel {F : Hp} {kvs : List (Key × PyData)} {ks : List (Key × V)} (r : KRel F kvs ks) (k : Key) : (valV ks k).isSome = (valD kvs k).isSome := by
  rcases valD_ok r k with ⟨z1, z2⟩ | ⟨d', v', z1, z2, _⟩ <;> rw [z1, z2] <;> rfl
theorem le_din {te ty : TE} {we wy : WE} (hy : LE ty wy) (he : LE te we) : LE (tDIn ty te) (wDIn wy we) := fun _ _ _ _ _ _ _ h e hq o =>
  hy h e hq fun y M1 v w1 H1 s1 h1 r1 q1 => he h1 (e.grow s1.grow) q1 fun x M2 v2 w2 H2 s2 h2 r2 q2 => by
    obtain ⟨n, kvs, ey, k, rfl, hm, hv, hk, q⟩ := q2
    obtain ⟨a, ob, rfl, ha, ho, ks, rfl, r⟩ := cell_at h2 r2 hm (fun q => nomatch q)
    have ek := keyD_ok (view_ok h2 (r1.grow s2.grow) hv) hk
    subst ek
    refine ⟨a, _, rfl, DGet.k ho, ?_⟩
    rw [isSome_rel r k]
    exact ((o.trans s1 h1).trans s2 h2).here h2 (RU.D (.bl _)) q
theorem le_dnotin {te ty : TE} {we wy : WE} (hy : LE ty wy) (he : LE te we) : LE (tDNotIn ty te) (wDNotIn wy we) := fun _ _ _ _ _ _ _ h e hq o =>
  hy h e hq fun y M1 v w1 H1 s1 h1 r1 q1 => he h1 (e.grow s1.grow) q1 fun x M2 v2 w2 H2 s2 h2 r2 q2 => by
    obtain ⟨n, kvs, ey, k, rfl, hm, hv, hk, q⟩ := q2
    obtain ⟨a, ob, rfl, ha, ho, ks, rfl, r⟩ := cell_at h2 r2 hm (fun q => nomatch q)
    have ek := keyD_ok (view_ok h2 (r1.grow s2.grow) hv) hk
    subst ek
    refine ⟨a, _, rfl, DGet.k ho, ?_⟩
    rw [isSome_rel r k]
    exact ((o.trans s1 h1).trans s2 h2).here h2 (RU.D (.bl _)) q
/-- d[y] = v -/
def wDPut (we wy wv : WE) : WS := fun De ρ M => wv ρ M fun z M1 => we ρ M1 fun x M2 => wy ρ M2 fun y M3 => ∃ n kvs e k d, x = .p n ∧ M3[n]? = some (.dic kvs) ∧ view M3 y = some e ∧ keyD e = some k ∧ z = .d d ∧ kvs.length < sizeLine ∧ De.nx ρ (M3.set n (.dic (putD kvs k d)))
theorem ls_dput {te ty tv : TE} {we wy wv : WE} (he : LE te we) (hy : LE ty wy) (hv : LE tv wv) : LS (sDPut te ty tv) (wDPut we wy wv) := fun _ _ _ _ _ _ _ h e hq o =>
  hv h e hq fun z M1 v w1 H1 s1 h1 r1 q1 => he h1 (e.grow s1.grow) q1 fun x M2 v2 w2 H2 s2 h2 r2 q2 => hy h2 ((e.grow s1.grow).grow s2.grow) q2 fun y M3 v3 w3 H3 s3 h3 r3 q3 => by
    obtain ⟨n, kvs, ey, k, d, rfl, hm, hvw, hk, rfl, hl, q⟩ := q3
    obtain ⟨a, ob, rfl, ha, ho, ks, rfl, r⟩ := cell_at h3 (r2.grow s3.grow) hm (fun q => nomatch q)
    have ek := keyD_ok (view_ok h3 r3 hvw) hk
    subst ek
    have rd : Rp w3.F d v := (r1.grow s2.grow).grow s3.grow
    refine ⟨a, _, rfl, DPut.k ho (by rw [← Paired.length r]; exact hl), ?_⟩
    exact o.nx _ _ _ _ _ (((s1.trans h1 s2).trans h2 s3).trans h3 (Step.set ha)) (h3.set ha hm (fun q => nomatch q) (RO.Dic (putD_ok r rd k))) (((e.grow s1.grow).grow s2.grow).grow s3.grow) q
/-- {k: v, ..}: a new cell -/
def wPairs : List (WE × WE) → Rho → List Ob → (List (U × U) → List Ob → Prop) → Prop
  | [], _, M, Q => Q [] M
  | (wk, wv) :: r, ρ, M, Q => wk ρ M fun x M1 => wv ρ M1 fun y M2 => wPairs r ρ M2 fun ps M3 => Q ((x, y) :: ps) M3
abbrev LPs : List (TE × TE) → List (WE × WE) → Prop := Paired fun t w => LE t.1 w.1 ∧ LE t.2 w.2
theorem lps_nil : LPs [] [] := .nil
theorem lps_cons {tk tv : TE} {wk wv : WE} {ts : List (TE × TE)} {ws : List (WE × WE)} (h1 : LE tk wk) (h2 : LE tv wv) (r : LPs ts ws) : LPs ((tk, tv) :: ts) ((wk, wv) :: ws) := .cons ⟨h1, h2⟩ r
abbrev RUU (w : Wd) : List (U × U) → List (V × V) → Prop := Paired fun a b => RU w a.1 b.1 ∧ RU w a.2 b.2
theorem RUU.grow {w w' : Wd} {as : List (U × U)} {bs : List (V × V)} (g : Grow w w') (r : RUU w as bs) : RUU w' as bs := Paired.mapP r fun _ _ q => ⟨q.1.grow g, q.2.grow g⟩
theorem pairs_ok {trs : List (TE × TE)} {wrs : List (WE × WE)} (l : LPs trs wrs) : ∀ {w : Wd} {M : List Ob} {H : Hp} {σ : L2.St} {ρ : Rho} {Qp : List (U × U) → List Ob → Prop} {N : List (V × V) → Hp → Prop}, Hold w M H → Env w σ ρ → wPairs wrs ρ M Qp →
    (∀ us M' vs w' H', Step w H w' H' → Hold w' M' H' → RUU w' us vs → Qp us M' → N vs H') → tPairs trs σ H N := by
  induction l with
  | nil => intro w M H σ ρ Qp N h e hq o; exact o [] M [] w H (Step.refl w H) h .nil hq
  | @cons t wr ts wrs hl _ ih =>
    intro w M H σ ρ Qp N h e hq o
    obtain ⟨t1, t2⟩ := t
    obtain ⟨w1, w2⟩ := wr
    refine hl.1 h e hq fun x M1 v w1 H1 s1 h1 r1 q1 => hl.2 h1 (e.grow s1.grow) q1 fun y M2 v2 w2 H2 s2 h2 r2 q2 => ih h2 ((e.grow s1.grow).grow s2.grow) q2 fun us M3 vs w3 H3 s3 h3 r3 q3 => ?_
    exact o _ _ _ _ _ ((s1.trans h1 s2).trans h2 s3) h3 (.cons ⟨(r1.grow s2.grow).grow s3.grow, r2.grow s3.grow⟩ r3) q3
/-- texts and ints as keys, data as values -/
def keysD : List (U × U) → Option (List (Key × PyData))
  | [] => some []
  | (.d k, .d v) :: r => match keyD k, keysD r with
    | some k, some r => some ((k, v) :: r)
    | _, _ => none
  | _ :: _ => none
theorem keysD_ok {w : Wd} : ∀ {us : List (U × U)} {vs : List (V × V)} {kvs : List (Key × PyData)}, RUU w us vs → keysD us = some kvs → ∃ ks : List (Key × V), vs = ks.map (fun kv => (kV kv.1, kv.2)) ∧ KRel w.F kvs ks
  | _, _, _, .nil, e => by cases e; exact ⟨[], rfl, .nil⟩
  | (.d k, .d v) :: us, (x, y) :: vs, kvs, .cons h t, e => by
    unfold keysD at e
    cases e1 : keyD k with
    | none => rw [e1] at e; cases e
    | some k' =>
      cases e2 : keysD us with
      | none => rw [e1, e2] at e; cases e
      | some r =>
        rw [e1, e2] at e
        cases e
        obtain ⟨ks, rfl, q⟩ := keysD_ok t e2
        have ek : x = kV k' := by
          have hx : Rp w.F k x := h.1
          cases k with
          | int i => cases hx; cases e1; rfl
          | str z => cases hx; cases e1; rfl
          | _ => cases e1
        subst ek
        exact ⟨(k', y) :: ks, rfl, .cons ⟨rfl, h.2⟩ q⟩
  | (.d k, .p _) :: _, _, _, _, e => by cases e
  | (.d k, .v _) :: _, _, _, _, e => by cases e
  | (.d k, .s _ _) :: _, _, _, _, e => by cases e
  | (.p _, _) :: _, _, _, _, e => by cases e
  | (.v _, _) :: _, _, _, _, e => by cases e
  | (.s _ _, _) :: _, _, _, _, e => by cases e
theorem putK_new : ∀ (ks : List (Key × V)) (k : Key) (v : V), k ∉ ks.map (·.1) → putK ks k v = ks ++ [(k, v)] := by
  intro ks k v h
  unfold putK
  rw [if_neg]
  rw [List.any_eq_true]
  rintro ⟨kv, h1, h2⟩
  exact h (List.mem_map.mpr ⟨kv, h1, of_decide_eq_true h2⟩)
theorem mergeK_new : ∀ (more ks : List (Key × V)), (ks.map (·.1) ++ more.map (·.1)).Nodup → mergeK ks more = ks ++ more
  | [], ks, _ => by simp [mergeK]
  | (k, v) :: more, ks, h => by
    have h1 : k ∉ ks.map (·.1) := fun hk => by
      rw [List.map_cons] at h
      exact (List.nodup_append.mp h).2.2 k hk k List.mem_cons_self rfl
    show mergeK (putK ks k v) more = _
    rw [putK_new ks k v h1, mergeK_new more _ (by simpa using h)]
    simp
theorem keys_rel {F : Hp} {kvs : List (Key × PyData)} {ks : List (Key × V)} (r : KRel F kvs ks) : ks.map (·.1) = kvs.map (·.1) := by
  induction r with
  | nil => rfl
  | cons h t ih => rw [List.map_cons, List.map_cons, ih, h.1]
def wDisp (wrs : List (WE × WE)) : WE := fun ρ M Q => wPairs wrs ρ (M ++ [.dic []]) fun ps M1 => M1[M.length]? = some (.dic []) ∧ ∃ kvs, keysD ps = some kvs ∧ kvs.length ≤ 15 ∧ (kvs.map (·.1)).Nodup ∧ Q (.p M.length) (M1.set M.length (.dic kvs))
theorem le_disp {trs : List (TE × TE)} {wrs : List (WE × WE)} (l : LPs trs wrs) : LE (tDisp trs) (wDisp wrs) := fun w M H σ ρ Qu Q h e hq o p hp => by
  have s0 : Step w H (w.cell p) (upd H p (.dK [])) := Step.cell h hp
  have h0 : Hold (w.cell p) (M ++ [.dic []]) (upd H p (.dK [])) := h.cell' hp (RO.Dic .nil)
  refine pairs_ok l h0 (e.grow s0.grow) hq fun us M' vs w' H' s1 h1 r1 q1 => ?_
  obtain ⟨hm, kvs, hk, h15, hn, q⟩ := q1
  have rp : RU (w.cell p) (.p M.length) (.ref p) := RU.P (Wd.cell_at h)
  obtain ⟨a, ob, ea, ha, ho, ks0, rfl, r⟩ := cell_at h1 (rp.grow s1.grow) hm (fun q => nomatch q)
  cases ea
  cases r
  obtain ⟨ks, rfl, r2⟩ := keysD_ok r1 hk
  refine ⟨ho, ks, rfl, by rw [← Paired.length r2]; exact h15, ?_⟩
  rw [mergeK_new ks [] (by rw [List.map_nil, List.nil_append, keys_rel r2]; exact hn), List.nil_append]
  exact o _ _ _ _ _ ((s0.trans h0 s1).trans h1 (Step.set ha)) (h1.set ha hm (fun q => nomatch q) (RO.Dic r2)) (rp.grow s1.grow) q
end DL

namespace DL
open PySem L2
/-- a list's thing, by values -/
theorem get_list {X : Cx} : PGet X (rIxL X.K) := by
  intro pins s σ H x y v u Q I rx ry h
  obtain ⟨p, xs, i, z, rfl, rfl, hq, he, q⟩ := h
  cases rx
  obtain ⟨t, rfl⟩ := ry
  obtain ⟨its, r, pl, hz⟩ := I.list hq
  obtain ⟨j, h1, h2, h3, h4, h5⟩ := atI_get he
  obtain ⟨w, ew, rw'⟩ := r.get h2
  have hl := r.length
  have hn := line63
  have fin : EP X pins σ Q w s := ⟨z, H, I, rw', q⟩
  by_cases h0 : 0 ≤ i
  · have hj : i.toNat = j := by
      rw [seqIndex_of h0 h5] at h1
      exact Option.some.inj h1
    exact wpAny_getItem_list pl.isList h0 (by omega) (by rw [hj]; simpa using ew) fin
  · have hj : (i + (its.toArray.size : Int)).toNat = j := by
      rw [seqIndex_neg (by omega) h4] at h1
      rw [List.size_toArray, ← hl]
      exact Option.some.inj h1
    exact wpAny_getItem_list_neg pl.isList (by omega) (by rw [List.size_toArray] <;> omega) (by omega) (by rw [hj]; simpa using ew) fin
def wIxL : R2' := fun x y M Q => ∃ ds i d, view M x = some (.list ds) ∧ view M y = some (.int i) ∧ atI ds i = some d ∧ Q (.d d) M
theorem lr_ixL {K : PySem.W.Frag} : LR (rIxL K) wIxL := fun w M H x y vx vy Qu Q h rx ry hq o => by
  obtain ⟨ds, i, d, ea, ei, hx, q⟩ := hq
  obtain ⟨p, vs, rfl, hp, r⟩ := view_ok h rx ea
  obtain ⟨v, h1, h2⟩ := atI_rep r hx
  exact ⟨p, vs, i, v, rfl, vw_int (view_ok h ry ei), SqL.of hp, h1, o.here h (RU.D h2) q⟩
theorem lr_ipI {f : Int → Int → Int} {g : R2'} (h : LR (rI0 fun i j => .int (f i j)) g) : LR (ipI f) g := h
theorem x_getL {X : Cx} {K : PySem.W.Frag} (h : X.K = K) : PGet X (rIxL K) := h ▸ get_list
/-- o[i] op= e -/
def wAugS (wo wi : WE) (wget : R2') (we : WE) (wip : R2') (wset : U → U → U → List Ob → (List Ob → Prop) → Prop) : WS := fun De ρ M => wo ρ M fun o M1 => wi ρ M1 fun i M2 => wget o i M2 fun x M3 => we ρ M3 fun y M4 => wip x y M4 fun z M5 => wset o i z M5 fun M6 => De.nx ρ M6
theorem ls_augS {to ti te : TE} {tget : V → V → Hp → VK → Prop} {tip : TIp} {tset : TSet} {wo wi we : WE} {wget wip : R2'} {wset : U → U → U → List Ob → (List Ob → Prop) → Prop} (ho : LE to wo) (hi : LE ti wi) (hg : LR tget wget) (he : LE te we) (hp : LR tip wip) (hs : LSet tset wset) :
    LS (tAugS to ti te tget tip tset) (wAugS wo wi wget we wip wset) := fun _ _ _ _ _ _ _ h e hq o =>
  ho h e hq fun x1 M1 v1 w1 H1 s1 h1 r1 q1 => hi h1 (e.grow s1.grow) q1 fun x2 M2 v2 w2 H2 s2 h2 r2 q2 => hg h2 (r1.grow s2.grow) r2 q2 fun x3 M3 v3 w3 H3 s3 h3 r3 q3 =>
    he h3 (((e.grow s1.grow).grow s2.grow).grow s3.grow) q3 fun x4 M4 v4 w4 H4 s4 h4 r4 q4 => hp h4 (r3.grow s4.grow) r4 q4 fun x5 M5 v5 w5 H5 s5 h5 r5 q5 =>
      hs h5 ((((r1.grow s2.grow).grow s3.grow).grow s4.grow).grow s5.grow) (((r2.grow s3.grow).grow s4.grow).grow s5.grow) r5 q5 fun M6 w6 H6 s6 h6 q6 =>
        o.nx _ _ _ _ _ (((((s1.trans h1 s2).trans h2 s3).trans h3 s4).trans h4 s5).trans h5 s6) h6 ((((((e.grow s1.grow).grow s2.grow).grow s3.grow).grow s4.grow).grow s5.grow).grow s6.grow) q6
end DL

/-! ### promises of defs that may ask for a container's text: no repr is under way around them -/
namespace DL
open PySem L2 PySem.Spec PyProof.Rows
abbrev Calm (A : Around) : Prop := A.guards = some []
section
variable {P : Program} {w : World} {K : PySem.W.Frag} {mg : Str → Option Value} {base : Heap} {CX : CXT}
structure GnOk (P : Program) (w : World) (K : PySem.W.Frag) (mg : Str → Option Value) (base : Heap) (CX : CXT) (k : Nat) (f : Addr) (fd : FuncData) (ps : List Str) (sp : Sp) : Prop where
  ln : ∀ vs H Q E, sp vs H Q E → vs.length = ps.length
  go : ∀ (A : Around) (fr : List PySem.Env) (s : Shared) (H : Hp) (ar : Args) (us : List Value) (vs : List V) (Q : VK) (E : XK), Calm A → Room k A →
    Env0 P w K mg base A fr s H → BindsTo s fd ar (ps.zip us) → Vals vs us → sp vs H Q E → codeAny (model P w) A (.call (.ref f) ar) (CR CX fr P w H s Q E) s
theorem GnOk.of {k : Nat} {f : Addr} {fd : FuncData} {ps : List Str} {sp : Sp} (F : FnOk P w K mg base CX k f fd ps sp) : GnOk P w K mg base CX k f fd ps sp :=
  ⟨F.len, fun A fr s H ar us vs Q E _ r e b v h => F.run A fr s H ar us vs Q E r e b v h⟩
theorem GnOk.mono {j k : Nat} {f : Addr} {fd : FuncData} {ps : List Str} {sp : Sp} (F : GnOk P w K mg base CX j f fd ps sp) (hjk : j ≤ k) : GnOk P w K mg base CX k f fd ps sp :=
  ⟨F.ln, fun A fr s H ar us vs Q E c r => F.go A fr s H ar us vs Q E c (r.mono hjk)⟩
/-- a def's body, the text's own record of it at hand -/
theorem gn_of {k : Nat} {f : Addr} {nm ql : Str} {pa : Arguments} {bd : List Stmt} {sc : Scope} {v1 v2 v3 v4 v5 v6 v7 : Value} {a1 a2 : Option Addr} {sl : Array (Option Value)} {N ps : List Str} {sp : Sp}
    (hl : K.lookup f = some ⟨v7, a2, .func (PySem.W.fnOf nm ql pa bd sc v1 v2 v3 v4 a1 v5 v6), sl⟩) (hc : PySem.W.codeIn K v5 ql = true) (S : FnScope N ps sc) (hn : ∀ vs H Q E, sp vs H Q E → vs.length = ps.length)
    (hb : ∀ (A : Around) (fr : List PySem.Env) (s : Shared) (H : Hp) (vs : List V) (Q : VK) (E : XK), Calm A → Room k (A.deeper (envOfC ql sc s.heap.objs.size f v5)) → sp vs H Q E →
      ∃ t, PSs (cxOf CX P w K mg base N ql sc f v5 A fr s H E) bd t ∧ t { nx := fun _ H' => Q .non H', rt := Q } (start N vs) H) : GnOk P w K mg base CX (k + 1) f (PySem.W.fnOf nm ql pa bd sc v1 v2 v3 v4 a1 v5 v6) ps sp := by
  constructor
  · exact hn
  intro A fr s H ar us vs Q E cm rm e0 bt rv hsp
  have KI : K.In s.heap := e0.mod.kin.keeps fun b o z => (e0.bs b o z).1
  have NL : s.heap.NoLimit := e0.mod.nolimit.keeps fun b o z => (e0.bs b o z).1
  have hk : ∀ y ∈ ps.zip us, sc.names.lookup y.1 = some .local ∨ (sc.names.lookup y.1 = some .cell ∧ ((cellsFrom (s.heap.objs.size + 1) sc.names []).lookup y.1).isSome = true) := by
    rintro ⟨n, v⟩ hy
    exact (S.par n (List.of_mem_zip hy).1).imp id fun q => ⟨q, PySem.W.cellsFrom_some _ _ _ (.inl q)⟩
  apply codeAny_call_function rm.depth (KI _ _ hl) rfl S.co S.gen rfl (PySem.W.codeRec_of KI hc) (bt _ _ _ _ _)
  apply wpAny_newFunctionEnv_cells S.kind hk
  rintro env rfl s1 x
  refine ⟨NL.keeps x.toInCall.keep, codeAny_func ?_⟩
  obtain ⟨t, ht, hq⟩ := hb A fr s H vs Q E cm (rm.deeper _) hsp
  have I0 := inv_start (CX := CX) (E := E) S rm.hd e0 (hn _ _ _ _ hsp) rv x
  have done : ∀ {σ' : L2.St} {H' : Hp} {v : V} {u : Value} {s' : Shared}, Inv (cxOf CX P w K mg base N ql sc f v5 A fr s H E) [] σ' H' s' → RelV v u → Q v H' → CE fr P w H s Q u s' :=
    fun J r q => ⟨_, _, J.os, J.bare, J.base, J.hok, r, q⟩
  refine wpAny_mono (ht.run [] s1 (start N vs) H _ I0 hq) (fun fl s' z => ?_) fun _ _ z => z
  match fl, z with
  | .ret u, ⟨_, _, _, J, r, q⟩ => exact done J r q
  | .next, ⟨_, _, J, q⟩ => exact done (v := V.non) (u := Value.none) J rfl q
  | .brk, ⟨_, _, _, q⟩ => exact q.elim
  | .cont, ⟨_, _, _, q⟩ => exact q.elim
theorem okG {x ql : Str} {st : Stmt} {f : Addr} {fd : FuncData} {N ps : List Str} {k : Nat} {sp : Sp} (F : Fun K x ql st f fd) (S : FnScope N ps (defScope st)) (hn : ∀ vs H Q E, sp vs H Q E → vs.length = ps.length)
    (hb : ∀ (cdv : Value) (A : Around) (fr : List PySem.Env) (s : Shared) (H : Hp) (vs : List V) (Q : VK) (E : XK), Calm (A.deeper (envOfC ql (defScope st) s.heap.objs.size f cdv)) → Room k (A.deeper (envOfC ql (defScope st) s.heap.objs.size f cdv)) → sp vs H Q E →
      ∃ t, PSs (cxOf CX0 P w K mg base N ql (defScope st) f cdv A fr s H E).nox (defBody st) t ∧ t { nx := fun _ H' => Q .non H', rt := Q } (start N vs) H) : GnOk P w K mg base CX0 (k + 1) f fd ps sp := by
  obtain ⟨v7, a2, v2, v3, v4, a1, v5, v6, sl, rfl, hl, hc⟩ := F.ex
  refine gn_of hl hc S hn fun A fr s H vs Q E cm rm hsp => ?_
  obtain ⟨t, h1, h2⟩ := hb v5 A fr s H vs Q E cm rm hsp
  exact ⟨t, h1.nox, h2⟩
end
section
variable {X : Cx} {CX : CXT} {k : Nat} {f : Addr} {fd : FuncData} {ps : List Str} {sp : Sp} {dvs : List V} {ds : List Value} {E : XK} {x : Str} {p pos : Pos} {e : Expr} {es : List Expr} {t : TA}
theorem run_gn {pins : List (Addr × Obj)} {σ : L2.St} {H : Hp} {s : Shared} {Q : VK} {us : List Value} {vs : List V} (F : GnOk X.prog X.w X.K X.mg X.base CX k f fd ps sp) (cm : Calm X.A) (rm : Room k X.A) (hb : Binds X.K fd ps ds) (hd : Vals dvs ds) (hx : Passes CX X E)
    (I : Inv X pins σ H s) (rv : Vals vs us) (h : sp (vs ++ dvs) H Q E) : wpAny (model X.prog X.w) X.A (call (.ref f) us) (EP X pins σ Q) X.xe s := by
  have ra := rv.append hd
  have ln : (us ++ ds).length = ps.length := ra.length.symm.trans (F.ln _ _ _ _ h)
  apply wpAny_call
  refine codeAny_mono (F.go X.A X.stack s H ⟨us, []⟩ _ _ Q E cm rm I.env0 (hb s us I.kIn ln) ra h) fun r s' z => ?_
  match r, z with
  | .error e, z => exact hx pins σ H s e s' I z
  | .ok (.ret u), z => exact I.after z
  | .ok .next, z => exact z.elim
  | .ok .brk, z => exact z.elim
  | .ok .cont, z => exact z.elim
theorem pe_callG (F : GnOk X.prog X.w X.K X.mg X.base CX k f fd ps sp) (cm : Calm X.A) (rm : Room k X.A) (hg : Gl X x) (hm : X.mg x = some (.ref f)) (hk : PySem.W.keepIn X.K (.ref f) = true) (hb : Binds X.K fd ps ds) (hd : Vals dvs ds) (hx : Passes CX X E)
    (ha : PA X (e :: es) t) (h1 : (x == ("__debug__" : Str)) = false := by decide) (h2 : starEach (e :: es) X.env = (false, eval e X.env) :: starEach es X.env := by rfl) (h3 : (backTo pos (starEach es X.env)).any (·.1) = false := by rfl) :
    PE X (.Call (.Name x p) (e :: es) [] pos) (tCall sp dvs E t) := by
  constructor
  intro pins s σ H Q I h
  refine wpAny_Call_Name_kw (ld_glob I hg hm ?_ h1)
  exact PySem.W.callWith_K (h₀ := X.base) I.ok.mod.kin hk (thn (ha.run pos pins s σ H _ I h) fun us s1 ⟨vs, H1, I1, r, q⟩ => ⟨I1.kIn, run_gn F cm rm hb hd hx I1 r q⟩) h2 h3
/-- str of a list, a tuple -/
def rStrB (K : PySem.W.Frag) : List V → Hp → VK → Prop := fun xs H Q => ∃ v d, xs = [v] ∧ Dp K H v d ∧ isDisplay d = true ∧ d.showable = true ∧ d.hasDict = false ∧ d.depth ≤ 60 ∧ d.shown.length ≤ sizeLine ∧ Q (.str d.shown) H
theorem call_strB (cm : Calm X.A) (hu : X.A.units + 64 < cLine) : CallR X (.type "str") (rStrB X.K) := by
  rintro pins s σ H xs us Q I rv ⟨v, d, rfl, hd, h1, h2, h3, h4, h5, q⟩
  cases rv with
  | cons r t =>
    cases t
    obtain ⟨as, rd⟩ := Dp.reads I d _ _ hd r
    obtain ⟨a, rfl⟩ := isRef_of_reads rd h1
    exact str_of_reads rd h2 (PyData.noDict_hsm h3) cm (by omega) (fun _ _ z => z) (fun h' u tk hk => ⟨.str d.shown, H, I.kept hk, ⟨u, rfl⟩, q⟩) h5
end
def wStrB : List U → List Ob → (U → List Ob → Prop) → Prop := fun us M Q => ∃ u d, us = [u] ∧ view M u = some d ∧ isDisplay d = true ∧ d.showable = true ∧ d.hasDict = false ∧ d.depth ≤ 60 ∧ d.shown.length ≤ sizeLine ∧ Q (.d (.str d.shown)) M
theorem lc_strB {K : PySem.W.Frag} : LC (rStrB K) wStrB := fun w M H x vx Qu Q h rx hq o => by
  obtain ⟨u, d, rfl, hv, h1, h2, h3, h4, h5, q⟩ := hq
  cases rx with
  | cons r t =>
    cases t
    exact ⟨_, d, rfl, Vw.dp h.sub (view_ok h r hv), h1, h2, h3, h4, h5, o.here h (RU.D (.str _)) q⟩
/-- the head: the law's own def is called, on its script -/
theorem law_callG {P : Program} {w : World} {K : PySem.W.Frag} {mg mb : Str → Option Value} {CX : CXT} {k : Nat} {fa a : Addr} {fd : FuncData} {x : Str} {sp : Sp} {s1 : Shared} {vs : List Value} {ns : List Int}
    (hK : K.In s1.heap) (hm : s1.heap.Ns mainGlobals mg) (hb : s1.heap.Ns builtinsNs mb) (hbb : ∀ x : Str, x ≠ "__name__" → mb x = bootBuiltins x) (hlim : s1.heap.NoLimit) (hg : s1.gens = #[]) (ho : s1.heap.get? a = some { cls := .type "list", data := .seq vs.toArray })
    (hi : IntsAre vs ns) (hl : ns.length ≤ sizeLine) (rm : Room k callerA) (F : ∀ base : Heap, K.In base → base.Ns mainGlobals mg → GnOk P w K mg base CX k fa fd [x] sp) (hbind : ∀ (s : Shared) (u : Value), BindsTo s fd ⟨[u], []⟩ [(x, u)])
    (hsp : ∀ H : Hp, Only H → SqL K H a (ns.map V.int) → sp [.ref a] H (fun v _ => v = .bl true) fun _ _ _ => False) (hC : ∀ H e s', CX [] H s1 (fun _ _ _ => False) e s' → False) :
    codeAny (model P w) callerA (.call (.ref fa) ⟨[.ref a], []⟩) (fun r s' => r = .ok (.ret (.bool true)) ∧ OldK s1.heap s'.heap ∧ s'.os = s1.os ∧ AllBare s'.gens) s1 := by
  have core : ∀ H : Hp, Only H → SqL K H a (ns.map V.int) → HOk P w H s1.heap → (∀ b, H b ≠ none → b = a ∧ K.lookup a = none) →
      codeAny (model P w) callerA (.call (.ref fa) ⟨[.ref a], []⟩) (fun r s' => r = .ok (.ret (.bool true)) ∧ OldK s1.heap s'.heap ∧ s'.os = s1.os ∧ AllBare s'.gens) s1 := by
    intro H onl sq hok own
    -- what is no dict of the script's own is not hidden
    have dct : ∀ {b : Addr} {o : Obj} {es : Array DictEntry} {n : Nat}, s1.heap.get? b = some o → o.data = .dict es n → H b = none := by
      intro b o es n e dd
      apply Classical.byContradiction
      intro z
      have eb := (own b z).1
      subst eb
      rw [ho] at e
      cases e
      exact absurd dd (by nofun)
    have nsp : ∀ {b : Addr} {m : Str → Option Value}, s1.heap.Ns b m → (hidT s1.heap H).Ns b m := by
      rintro b m ⟨o, es, n, e, dd, rest⟩
      exact ⟨o, es, n, hidT_get e (dct e dd), dd, rest⟩
    have kin : K.In (hidT s1.heap H) := by
      intro b o e
      refine hidT_get (hK b o e) (Classical.byContradiction fun z => ?_)
      obtain ⟨rfl, q⟩ := own b z
      rw [q] at e
      cases e
    obtain ⟨mc, l1, l2⟩ := hlim
    have md : Mod K mg (hidT s1.heap H) := ⟨kin, nsp hm, ⟨mb, nsp hb, hbb⟩, ⟨mc, nsp l1, l2⟩⟩
    have e0 : Env0 P w K mg (hidT s1.heap H) callerA [] s1 H := { frames := rfl, mod := md, bs := fun b o e => of_hidT e, bsz := Nat.le_of_eq (hidT_size _ _), funs := trivial, frf := fun b z => (nomatch z), hok := hok, bare := .of_eq hg }
    have run := (F _ kin (nsp hm)).go callerA [] s1 H ⟨[.ref a], []⟩ [.ref a] [.ref a] _ _ rfl rm e0 (hbind s1 (.ref a)) (.cons rfl .nil) (hsp H onl sq)
    refine codeAny_mono run fun r s' z => ?_
    match r, z with
    | .error e, z => exact (hC H e s' z).elim
    | .ok .next, z => exact z.elim
    | .ok .brk, z => exact z.elim
    | .ok .cont, z => exact z.elim
    | .ok (.ret u), z =>
      obtain ⟨v, H', q1, q2, un, ok2, rv, q⟩ := z
      have q' : v = .bl true := q
      subst q'
      have eu : u = Value.bool true := rv
      subst eu
      refine ⟨rfl, OldK.of_keep ?_, q1, q2⟩
      intro b o e
      rcases onl b with z | ⟨ob, xs, z⟩
      · exact un.keep b o e z (fun y => (nomatch y)) (fun y => (nomatch y))
      · have t1 := (hok b _ z).1
        have t2 := (ok2 b _ (un.frzs b ob _ z)).1
        rw [e] at t1
        cases t1
        exact t2
  have rv := vals_ints hi
  have lv : vs.length = ns.length := hi.length
  cases hk : K.lookup a with
  | none =>
    have fz : ∀ b u, (if b = a then some (HO.frz { cls := .type "list", data := .seq vs.toArray } (.lst (ns.map V.int))) else none) = some u → b = a ∧ u = HO.frz { cls := .type "list", data := .seq vs.toArray } (.lst (ns.map V.int)) := by
      intro b u z
      by_cases c : b = a
      · rw [if_pos c] at z; exact ⟨c, (Option.some.inj z).symm⟩
      · rw [if_neg c] at z; cases z
    refine core (fun b => if b = a then some (.frz { cls := .type "list", data := .seq vs.toArray } (.lst (ns.map V.int))) else none) ?_ (.inl (.inr ⟨_, if_pos rfl⟩)) ?_ ?_
    · intro b
      by_cases c : b = a
      · exact .inr ⟨_, _, if_pos c⟩
      · exact .inl (if_neg c)
    · intro b u z
      obtain ⟨rfl, rfl⟩ := fz b u z
      exact ⟨ho, by rw [List.length_map]; exact hl, vs, _, rv, ho⟩
    · intro b z
      refine ⟨Classical.byContradiction fun c => z (if_neg c), hk⟩
  | some o =>
    have e := hK a o hk
    rw [ho] at e
    cases e
    exact core (fun _ => none) (fun _ => .inl rfl) (.inr ⟨_, vs.toArray, _, hk, rfl, rfl, rfl, by rw [List.size_toArray, lv]; exact hl, by simpa using rv⟩) (fun b u z => (nomatch z)) fun b z => absurd rfl z
/-- what k_head leaves, from the law's promise -/
theorem walk_ofG {l : PySem.W.OpenLaw} {n k : Nat} {q : Program} {loose : List Str} {XP : (Str → Option Value) → Heap → Prop} {YP : World → Heap → Prop} {d : DefRec} {K : Params → PySem.W.Frag} {CX : CXT} {sp : PySem.W.Frag → Sp} {x : Str}
    (hn : l.most = some n) (hz : n ≤ sizeLine) (hdf : d.params.defaults = []) (rm : Room k callerA) (hY : ∀ (w : World) (h : Heap), YP w h → (K w.params).In h)
    (F : ∀ (w : World) (mg : Str → Option Value) (fa : Addr) (h : Heap), (K w.params).In h → h.Ns mainGlobals mg → mg d.name = some (.ref fa) → ∃ fd : FuncData, (∀ (s : Shared) (u : Value), BindsTo s fd ⟨[u], []⟩ [(x, u)]) ∧
      ∀ base : Heap, (K w.params).In base → base.Ns mainGlobals mg → GnOk l.prog w (K w.params) mg base CX k fa fd [x] (sp (K w.params)))
    (hsp : ∀ (K : PySem.W.Frag) (H : Hp) (a : Addr) (ns : List Int), ns.length ≤ n → Only H → SqL K H a (ns.map V.int) → sp K [.ref a] H (fun v _ => v = .bl true) fun _ _ _ => False)
    (hC : ∀ (H : Hp) (s : Shared) (e : Value) (s' : Shared), CX [] H s (fun _ _ _ => False) e s' → False) : PySem.W.WalkO q loose XP YP l.row.toRowW d [] (fun f vs => PySem.call f vs) := by
  apply Att.attach_call hn hdf
  intro w s0 s1 mg mb fa o pm cd doc a vs ns G Y _ _ _ hmg hobj hints hlen hg
  obtain ⟨fd, hb, hF⟩ := F w mg fa _ (hY w _ Y) G.T.g hmg
  exact law_callG (hY w _ Y) G.T.g G.T.b G.T.builtins G.T.nolimit hg hobj hints (Nat.le_trans hlen hz) rm hF hb (fun H h1 h2 => hsp _ H a ns hlen h1 h2) fun H e s' => hC H s1 e s'
end DL

/-! ### calls that read cells; more methods, ranges, dicts of pairs -/
namespace DL
open PySem L2
/-- all list cells as data -/
noncomputable def froz (w : Wd) (H : Hp) : Hp := fun a => match w.F a with
  | some o => some o
  | none => match Classical.propDecidable (a ∈ w.th) with
    | .isTrue _ => (match H a with
      | some (.lst vs) => some (.lst vs)
      | _ => none)
    | .isFalse _ => none
theorem froz_F {w : Wd} {H : Hp} : Same w.F (froz w H) := fun a o e => by unfold froz; rw [e]
theorem froz_sub {w : Wd} {M : List Ob} {H : Hp} (h : Hold w M H) : Same (froz w H) H := fun a o e => by
  unfold froz at e
  split at e
  · rename_i o' e'
    cases e
    exact h.sub a _ e'
  · split at e
    · split at e
      · rename_i vs e2
        cases e
        exact e2
      · cases e
    · cases e
theorem froz_at {w : Wd} {M : List Ob} {H : Hp} (h : Hold w M H) {a : Addr} {vs : List V} (ha : a ∈ w.th) (e : H a = some (.lst vs)) : froz w H a = some (.lst vs) := by
  unfold froz
  split
  · rename_i o e'
    have := h.sub a o e'
    rw [e] at this
    exact this.symm
  · split
    · rw [e]
    · exact absurd ha (by assumption)
theorem view_froz {w : Wd} {M : List Ob} {H : Hp} (h : Hold w M H) : ∀ {u : U} {v : V} {d : PyData}, RU w u v → view M u = some d → Rp (froz w H) d v
  | .d d', v, d, r, e => by cases e; exact Rp.mono froz_F r
  | .p n, v, d, r, e => by
    have q := view_ok h r e
    obtain ⟨a, ha, rfl⟩ := r
    have e' : (match M[n]? with | some (.lst ds) => some (PyData.list ds) | _ => none) = some d := e
    cases hm : M[n]? with
    | none => rw [hm] at e'; cases e'
    | some m =>
      rw [hm] at e'
      cases m with
      | lst ds =>
        cases e'
        obtain ⟨p, vs, ep, hp, rr⟩ := q
        cases ep
        exact .lst (froz_at h (List.mem_of_getElem? ha) hp) (rr.mono froz_F)
      | _ => cases e'
  | .v _, _, _, _, e => by cases e
  | .s _ _, _, _, _, e => by cases e
theorem views_froz {w : Wd} {M : List Ob} {H : Hp} (h : Hold w M H) : ∀ {us : List U} {vs : List V} {ds : List PyData}, RUs w us vs → views M us = some ds → RpL (froz w H) ds vs
  | _, _, _, .nil, e => by cases e; exact .nil
  | u :: us, v :: vs, ds, .cons r t, e => by
    unfold views at e
    cases q : view M u with
    | none => rw [q] at e; cases e
    | some d =>
      rw [q] at e
      cases q2 : views M us with
      | none => rw [q2] at e; cases e
      | some es =>
        rw [q2] at e
        cases e
        exact .cons (view_froz h r q) (views_froz h t q2)
theorem rp_flat {F F' : Hp} {z : PyData} {v : V} (h : flatD z = true) (r : Rp F z v) : Rp F' z v := by
  cases r with
  | non => exact .non
  | bl b => exact .bl b
  | int i => exact .int i
  | str x => exact .str x
  | lst _ _ => cases h
  | tup _ _ => cases h
/-- a call that reads data and list cells, and hands back a plain value -/
def wCallV (d : DSp) (dv : List PyData) (wr : WA) : WE := fun ρ M Q => wr ρ M fun us M1 => ∃ ds, views M1 us = some ds ∧ d ((ds ++ dv).map U.d) [] fun u Mc => ∃ z, u = .d z ∧ flatD z = true ∧ Q (.d z) M1
theorem le_callV {d : DSp} {dvs : List V} {dv : List PyData} {E : XK} {tr : TA} {wr : WA} (hd : ∀ w : Wd, RUs w (dv.map U.d) dvs) (hr : LA tr wr) : LE (tCall (liftSp d) dvs E tr) (wCallV d dv wr) := fun _ _ _ _ _ _ _ h e hq o =>
  hr h e hq fun us M1 vs w1 H1 s1 h1 r1 q1 => by
    obtain ⟨ds, e1, q⟩ := q1
    refine ⟨⟨froz w1 H1, []⟩, [], _, _, ⟨rfl, .nil, froz_sub h1, fun n a m e => by simp at e⟩, ?_, q, fun u Mc v w2 H2 s2 h2 r2 q2 => ?_⟩
    · rw [List.map_append]
      exact rus_app (RUs.of (w := ⟨froz w1 H1, []⟩) (views_froz h1 r1 e1)) (hd _)
    · obtain ⟨z, rfl, hz, q2⟩ := q2
      have keep : ∀ a o, H1 a = some o → H2 a = some o := fun a o e => s2.fr a o e (by simp)
      refine (o.trans s1 h1) _ _ v w1 H2 ⟨Same.refl _, ⟨[], by simp, by simp⟩, fun a o e _ => keep a o e, fun a o e1 e2 => by rw [e1] at e2; cases e2⟩ ?_ (RU.D (rp_flat hz (show Rp w2.F z v from r2))) q2
      refine ⟨h1.len, h1.nd, fun a o e => keep a o (h1.sub a o e), fun n a m e1 e2 => ?_⟩
      obtain ⟨ob, e3, e4⟩ := h1.cell n a m e1 e2
      exact ⟨ob, keep a ob e3, e4⟩
/-- insert(i, x) -/
def wInsert : WM := fun x ys M Q => ∃ n ds i d, x = .p n ∧ ys = [.d (.int i), .d d] ∧ M[n]? = some (.lst ds) ∧ ds.length < sizeLine ∧ 0 ≤ i ∧ i < 2 ^ 63 ∧ Q (.d .none) (M.set n (.lst (ds.take i.toNat ++ [d] ++ ds.drop i.toNat)))
def rInsert : V → List V → Hp → VK → Prop := fun x vs H Q => ∃ (l : Addr) (xs : List V) (i : Int) (y : V), x = .ref l ∧ vs = [.int i, y] ∧ H l = some (.lst xs) ∧ xs.length < sizeLine ∧ 0 ≤ i ∧ i < 2 ^ 63 ∧ Q .non (upd H l (.lst (xs.take i.toNat ++ [y] ++ xs.drop i.toNat)))
theorem x_insert {X : Cx} : MtR X "list.insert" rInsert := mt_insert
theorem lm_insert : LM rInsert wInsert := fun w M H x vx ys vs Qu Q h rx rs hq o => by
  obtain ⟨n, ds, i, d, rfl, rfl, hm, hl, h0, h1, q⟩ := hq
  cases rs with
  | cons r1 t =>
    cases t with
    | cons r2 t2 =>
      cases t2
      cases (show Rp w.F (.int i) _ from r1)
      obtain ⟨a, ob, rfl, ha, ho, ws, rfl, rr⟩ := cell_at h rx hm (fun q => nomatch q)
      exact ⟨a, ws, i, _, rfl, rfl, ho, by rw [← rr.length]; exact hl, h0, h1, set_out h ha hm (fun q => nomatch q) (RO.L (((rr.take i.toNat).append (.cons r2 .nil)).append (rr.drop i.toNat))) (RU.D .non) q o⟩
/-- reverse() -/
def wReverse : WM := fun x ys M Q => ∃ n ds, x = .p n ∧ ys = [] ∧ M[n]? = some (.lst ds) ∧ Q (.d .none) (M.set n (.lst ds.reverse))
theorem lm_reverse : LM rReverse wReverse := fun w M H x vx ys vs Qu Q h rx rs hq o => by
  obtain ⟨n, ds, rfl, rfl, hm, q⟩ := hq
  cases rs
  obtain ⟨a, ob, rfl, ha, ho, ws, rfl, rr⟩ := cell_at h rx hm (fun q => nomatch q)
  exact ⟨a, ws, rfl, rfl, ho, set_out h ha hm (fun q => nomatch q) (RO.L rr.reverse) (RU.D .non) q o⟩
/-- range(i, j, c) -/
def intsC (lo c : Int) (n : Nat) : List U := (List.range n).map fun i => U.d (.int (lo + (i : Nat) * c))
theorem j_rngC {w : Wd} {lo c : Int} {n : Nat} : JOk w (Itc lo c n) (intsC lo c n) fun _ => True where
  stop := fun i _ _ _ hi => by
    show n ≤ i
    simpa [intsC] using hi
  go := fun i _ _ _ hi => by
    show i < n
    simpa [intsC] using hi
  yld := fun {w' M H H' v u} i g h _ hu y => by
    obtain ⟨rfl, rfl⟩ := y
    have hl : i < n := by simpa [intsC] using (List.getElem?_eq_some_iff.mp hu).1
    have e : u = .d (.int (lo + (i : Nat) * c)) := by
      unfold intsC at hu
      rw [List.getElem?_map, List.getElem?_range hl] at hu
      exact (Option.some.inj hu).symm
    subst e
    exact ⟨w', Step.refl _ _, h, RU.D (.int _)⟩
def wIRng3 (wr : WA) : WI := fun ρ M Q => wr ρ M fun us M1 => ∃ i j c n, us = [.d (.int i), .d (.int j), .d (.int c)] ∧ RgC i j c n ∧ Q (intsC i c n) (fun _ => True) M1
theorem li_rng3 {tr : TA} {wr : WA} (hr : LA tr wr) : LI (iRng3 tr) (wIRng3 wr) := fun _ _ _ _ _ _ _ h e hq k =>
  hr h e hq fun _ _ _ _ _ s1 h1 r1 q1 => by
    obtain ⟨i, j, c, n, rfl, hR, q⟩ := q1
    refine ⟨i, j, c, n, ?_, hR, k _ _ _ _ _ _ s1 h1 j_rngC q⟩
    cases r1 with
    | cons a t =>
      cases t with
      | cons b t =>
        cases t with
        | cons d t =>
          cases t
          cases (show Rp _ _ _ from a)
          cases (show Rp _ _ _ from b)
          cases (show Rp _ _ _ from d)
          rfl
end DL

/-! ### small data: its text's length -/
namespace DL
open PySem L2 PySem.Spec PyProof.Rows
mutual
def tame : PyData → Bool
  | .none => true
  | .bool _ => true
  | .int i => decide (i.natAbs < 10 ^ 100)
  | .str x => PyData.strOk x && decide (x.length ≤ 100)
  | .list xs => decide (xs.length ≤ 10000) && tames xs
  | .tuple xs => decide (xs.length ≤ 10000) && tames xs
  | .dict _ => false
def tames : List PyData → Bool
  | [] => true
  | x :: xs => tame x && tames xs
end
mutual
def cnt : PyData → Nat
  | .list xs => cnts xs + 1
  | .tuple xs => cnts xs + 1
  | _ => 1
def cnts : List PyData → Nat
  | [] => 0
  | x :: xs => cnt x + cnts xs
end
theorem strOk_lt {x : Str} (h : PyData.strOk x = true) : ∀ c ∈ x.cps.toList, c < 16 ^ 8 := fun c hc => by
  unfold PyData.strOk at h
  rw [Array.all_eq_true_iff_forall_mem] at h
  have := of_decide_eq_true (h c (Array.mem_toList_iff.mp hc))
  have e : (0x110000 : Nat) ≤ 16 ^ 8 := by decide
  omega
theorem len_app (x y : Str) : (x ++ y).length = x.length + y.length := Str.length_append x y
theorem textFrom_le : ∀ (ts : List Str) (k : Nat) (acc : Str), (textFrom k acc ts).length ≤ acc.length + piled ts
  | [], k, acc => Nat.le_add_right _ _
  | t :: ts, k, acc => by
    have h := textFrom_le ts (k + 1) (acc ++ (if k > 0 then ", " else "" : String) ++ t)
    rw [len_app, len_app] at h
    have e : (((if k > 0 then ", " else "" : String) : Str)).length ≤ 2 := by split <;> decide
    rw [piled_cons]
    show (textFrom (k + 1) _ ts).length ≤ _
    omega
theorem listText_le (ts : List Str) : (listText ts).length ≤ 2 + piled ts := by
  unfold listText
  rw [len_app]
  have h := textFrom_le ts 0 "["
  have e1 : ((("[" : String) : Str)).length = 1 := by decide
  have e2 : ((("]" : String) : Str)).length = 1 := by decide
  omega
theorem tupleText_le (ts : List Str) : (tupleText ts).length ≤ 3 + piled ts := by
  unfold tupleText
  rw [len_app, len_app]
  have e1 : ((("(" : String) : Str)).length = 1 := by decide
  have e3 : (((if ts.length == 1 then ",)" else ")" : String) : Str)).length ≤ 2 := by split <;> decide
  by_cases h : ts = []
  · subst h
    have e : (Str.join ", " ([] : List Str)).length = 0 := by decide
    omega
  · have := join_length_add ts h
    omega
mutual
theorem tame_shown : ∀ d : PyData, tame d = true → d.shown.length + 3 ≤ 1010 * cnt d
  | .none, _ => by show (Str.length _) + 3 ≤ _; decide
  | .bool b, _ => by cases b <;> (show (Str.length _) + 3 ≤ _; decide)
  | .int i, h => by
    have h' : i.natAbs < 10 ^ 100 := of_decide_eq_true (by simpa [tame] using h)
    have := int_text_length_le10 (a := i) (k := 100) (by decide) h'
    have e : (PyData.shown (.int i)).length = (Str.ofString (toString i)).length := rfl
    have e2 : (Str.ofString (toString i)).length = (toString i).length := PySem.ofString_length _
    rw [e]
    show _ ≤ 1010 * 1
    omega
  | .str x, h => by
    have h' : PyData.strOk x = true ∧ x.length ≤ 100 := by simpa [tame] using h
    have := StrLaws.reprText_len x (strOk_lt h'.1)
    show (reprText x).length + 3 ≤ 1010 * 1
    omega
  | .list xs, h => by
    have h' : xs.length ≤ 10000 ∧ tames xs = true := by simpa [tame] using h
    have := tames_shown xs h'.2
    have q := listText_le (PyData.shownAll xs)
    show (listText (PyData.shownAll xs)).length + 3 ≤ 1010 * (cnts xs + 1)
    omega
  | .tuple xs, h => by
    have h' : xs.length ≤ 10000 ∧ tames xs = true := by simpa [tame] using h
    have := tames_shown xs h'.2
    have q := tupleText_le (PyData.shownAll xs)
    show (tupleText (PyData.shownAll xs)).length + 3 ≤ 1010 * (cnts xs + 1)
    omega
  | .dict _, h => by simp [tame] at h
theorem tames_shown : ∀ xs : List PyData, tames xs = true → piled (PyData.shownAll xs) ≤ 1010 * cnts xs
  | [], _ => Nat.zero_le _
  | x :: xs, h => by
    have h' : tame x = true ∧ tames xs = true := by simpa [tames] using h
    have h1 := tame_shown x h'.1
    have h2 := tames_shown xs h'.2
    show piled (x.shown :: PyData.shownAll xs) ≤ 1010 * (cnt x + cnts xs)
    rw [piled_cons]
    omega
end
mutual
theorem tame_ok : ∀ d : PyData, tame d = true → d.showable = true ∧ d.hasDict = false ∧ d.canLay0 = true
  | .none, _ => ⟨rfl, rfl, rfl⟩
  | .bool _, _ => ⟨rfl, rfl, rfl⟩
  | .int i, h => by
    have h' : i.natAbs < 10 ^ 100 := of_decide_eq_true (by simpa [tame] using h)
    refine ⟨decide_eq_true ?_, rfl, rfl⟩
    by_cases h0 : i.natAbs = 0
    · rw [h0]; decide
    · rw [Nat.log2_lt h0]
      exact Nat.lt_trans h' (by decide)
  | .str x, h => by
    have h' : PyData.strOk x = true ∧ x.length ≤ 100 := by simpa [tame] using h
    exact ⟨rfl, rfl, h'.1⟩
  | .list xs, h => by
    have h' : xs.length ≤ 10000 ∧ tames xs = true := by simpa [tame] using h
    exact tames_ok xs h'.2
  | .tuple xs, h => by
    have h' : xs.length ≤ 10000 ∧ tames xs = true := by simpa [tame] using h
    exact tames_ok xs h'.2
  | .dict _, h => by simp [tame] at h
theorem tames_ok : ∀ xs : List PyData, tames xs = true → PyData.showableAll xs = true ∧ PyData.hasDictAll xs = false ∧ PyData.canLayAll0 xs = true
  | [], _ => ⟨rfl, rfl, rfl⟩
  | x :: xs, h => by
    have h' : tame x = true ∧ tames xs = true := by simpa [tames] using h
    obtain ⟨a1, a2, a3⟩ := tame_ok x h'.1
    obtain ⟨b1, b2, b3⟩ := tames_ok xs h'.2
    exact ⟨by simp [PyData.showableAll, a1, b1], by simp [PyData.hasDictAll, a2, b2], by simp [PyData.canLayAll0, a3, b3]⟩
end
theorem tame_shaped {d : PyData} (h : tame d = true) (hd : d.depth ≤ 64) : SeqAt.shaped d = true := by
  simp [SeqAt.shaped, (tame_ok d h).2.2, hd]
theorem tame_str {d : PyData} (h : tame d = true) (hc : cnt d ≤ 16000) : d.shown.length ≤ sizeLine := by
  have := tame_shown d h
  have e : sizeLine = 16777216 := rfl
  omega
theorem tames_all : ∀ xs : List PyData, (∀ x ∈ xs, tame x = true) → tames xs = true
  | [], _ => rfl
  | x :: xs, h => by
    have h1 := h x List.mem_cons_self
    have h2 := tames_all xs fun y hy => h y (List.mem_cons_of_mem _ hy)
    simp [tames, h1, h2]
theorem cnts_le {b : Nat} : ∀ xs : List PyData, (∀ x ∈ xs, cnt x ≤ b) → cnts xs ≤ b * xs.length
  | [], _ => Nat.zero_le _
  | x :: xs, h => by
    have h1 := h x List.mem_cons_self
    have h2 := cnts_le xs fun y hy => h y (List.mem_cons_of_mem _ hy)
    simp only [cnts, List.length_cons, Nat.mul_add, Nat.mul_one]
    omega
theorem depths_le {b : Nat} : ∀ xs : List PyData, (∀ x ∈ xs, x.depth ≤ b) → PyData.depthAll xs ≤ b
  | [], _ => Nat.zero_le _
  | x :: xs, h => by
    have h1 := h x List.mem_cons_self
    have h2 := depths_le xs fun y hy => h y (List.mem_cons_of_mem _ hy)
    simp only [PyData.depthAll]
    omega
end DL

/-! ### a, *b, c = a tuple or a list -/
namespace DL
open PySem L2 PySem.Spec PyProof.Rows
section
variable {prog : Program} {w : World} {A : Around} {I : Addr} {fp wr : List Addr} {n : Nat} {P : Nat → Value → Prop} {St : Nat → Heap → Prop}
theorem walks_shift (W : Walks prog w A I fp wr n P St) (k : Nat) (hk : k ≤ n) : Walks prog w A I fp wr (n - k) (fun i v => P (k + i) v) (fun i h => St (k + i) h) where
  sub := W.sub
  frame := fun i h h' st q => W.frame (k + i) h h' st q
  item := fun i s Q E hi st hQ => W.item (k + i) s Q E (by omega) st hQ
  done := fun s Q E st hQ => W.done s Q E (by rw [show k + (n - k) = n by omega] at st; exact st) hQ
  self := fun i s Q E st hQ => W.self (k + i) s Q E st hQ
theorem draw_walk (W : Walks prog w A I fp wr n P St) {E : Value → Shared → Prop} : ∀ (k i : Nat) (s : Shared) (Q : List Value → Shared → Prop), i + k ≤ n → St i s.heap →
    (∀ vs h' tk, vs.length = k → (∀ j v, vs[j]? = some v → P (i + j) v) → St (i + k) h' → (∀ b o, b ∉ wr → s.heap.get? b = some o → h'.get? b = some o) → Q vs { s with heap := h', toks := tk }) → wpAny (model prog w) A (draw (.ref I) k) Q E s
  | 0, i, s, Q, _, st, hQ => by
    show wpAny _ _ (pure []) Q E s
    exact wpAny_pure (hQ [] s.heap s.toks rfl (fun j v h => by simp at h) st fun _ _ _ h => h)
  | k + 1, i, s, Q, hk, st, hQ => by
    show wpAny _ _ (pyNext (.ref I) >>= _) Q E s
    refine wpAny_bind (W.item i s _ _ (by omega) st fun v h1 tk1 hv st1 k1 => ?_)
    refine wpAny_bind (wpAny_holding (draw_walk W k (i + 1) _ _ (by omega) st1 fun vs h2 tk2 hl hvs st2 k2 => wpAny_pure ?_))
    refine hQ (v :: vs) h2 tk2 (by simp [hl]) ?_ (by rw [show i + (k + 1) = i + 1 + k by omega]; exact st2) fun b o hb e => k2 b o hb (k1 b o hb e)
    intro j x hx
    cases j with
    | zero => simp at hx; subst hx; exact hv
    | succ j => rw [show i + (j + 1) = i + 1 + j by omega]; exact hvs j x (by simpa using hx)
/-- behind the iterator: so many drawn, the rest collected, the middle put into a new list -/
theorem star_rest {items : Array Value} {fp1 : Addr} {T : String} {s : Shared} {E : Value → Shared → Prop} {Q : List Value → Shared → Prop} {m i : Nat} (hT : T = "list_iterator" ∨ T = "tuple_iterator")
    (W : Walks prog w A.in1 I [I, fp1] [I] items.size (fun i v => items[i]? = some v) St) (W0 : Walks prog w A I [I, fp1] [I] items.size (fun i v => items[i]? = some v) St) (ty : ∀ i (s : Shared), St i s.heap → s.TypeIs (.ref I) T) (st : St 0 s.heap)
    (hi : i < m) (hm : m - 1 ≤ items.size) (hz : items.size ≤ sizeLine)
    (ex : ∀ i (h : Heap), St i h → ∀ b ∈ [I, fp1], b < h.objs.size)
    (hQ : ∀ (h' : Heap) (tk : Nat), (∀ b o, b ≠ I → s.heap.get? b = some o → h'.get? b = some o) → ∀ mid, mid = (items.toList.drop i).take (items.size - (m - 1)) →
      Q (items.toList.take i ++ [.ref h'.objs.size] ++ items.toList.drop (items.size - (m - 1 - i))) { s with heap := h'.push { cls := .type "list", data := .seq mid.toArray }, toks := tk }) :
    wpAny (model prog w) A (do
      let first ← holding [.ref I] (draw (.ref I) i)
      if first.length < i then
        rule "unpack.star.too-few-before"
        raiseError "ValueError" s!"not enough values to unpack (expected at least {m - 1}, got {first.length})"
      let rest ← holding first (collect (.ref I))
      let after := m - 1 - i
      if rest.length < after then
        rule "unpack.star.too-few"
        raiseError "ValueError" s!"not enough values to unpack (expected at least {m - 1}, got {i + rest.length})"
      let mid := rest.length - after
      return first ++ [← newList (rest.take mid)] ++ rest.drop mid) Q E s := by
  refine wpAny_bind (wpAny_holding (draw_walk W0 i 0 s _ (by omega) st fun vs h1 tk1 hl hvs st1 k1 => ?_))
  rw [if_neg (by omega)]
  have ev : vs = items.toList.take i := by
    apply List.ext_getElem?
    intro j
    by_cases hj : j < i
    · have h2 := hvs j vs[j] (List.getElem?_eq_getElem (by omega))
      rw [Nat.zero_add] at h2
      have h3 : items.toList[j]? = some vs[j] := by rw [Array.getElem?_toList]; exact h2
      rw [List.getElem?_take_of_lt hj, h3]
      exact List.getElem?_eq_getElem (by omega)
    · rw [List.getElem?_eq_none (by omega), List.getElem?_eq_none (by rw [List.length_take]; omega)]
  rw [Nat.zero_add] at st1
  have Ws := (walks_shift W i (by omega)).toS
  refine wpAny_bind (wpAny_holding (wpAny_collect_iter (I := I) (T := T) (by rcases hT with h | h <;> simp [h]) Ws (fun j s q => ty (i + j) s q) (show St (i + 0) h1 from st1) (ex i h1 st1) (by simp) (fun s' acc hm hacc => ?_) (by omega)))
  obtain ⟨hsz, hget⟩ := hacc
  have ea : acc.toList = items.toList.drop i := by
    apply List.ext_getElem?
    intro j
    by_cases hj : j < acc.size
    · have h2 := hget j acc[j] (Array.getElem?_eq_getElem hj)
      have h3 : items.toList[i + j]? = some acc[j] := by rw [Array.getElem?_toList]; exact h2
      have h4 : acc.toList[j]? = some acc[j] := by rw [Array.getElem?_toList]; exact Array.getElem?_eq_getElem hj
      rw [List.getElem?_drop, h3, h4]
    · rw [List.getElem?_eq_none (by simpa using hj), List.getElem?_eq_none (by rw [List.length_drop, Array.length_toList]; omega)]
  rw [ea, hm.eq_with]
  have hl2 : (items.toList.drop i).length = items.size - i := by rw [List.length_drop, Array.length_toList]
  rw [hl2, if_neg (by omega)]
  refine wpAny_bind (wpAny_newList ?_ (by rw [List.length_take, hl2]; omega))
  refine wpAny_pure ?_
  have q := hQ s'.heap s'.toks (fun b o hb e => hm.heap b o (by simpa using hb) (k1 b o (by simpa using hb) e)) _ rfl
  rw [ev]
  have e1 : items.size - i - (m - 1 - i) = items.size - (m - 1) := by omega
  have e2 : (items.toList.drop i).drop (items.size - (m - 1)) = items.toList.drop (items.size - (m - 1 - i)) := by
    rw [List.drop_drop]; congr 1; omega
  rw [e1, e2]
  exact q
end
section
variable {X : Cx}
/-- a list's or a tuple's items, by their kinds -/
theorem unpack_star {pins : List (Addr × Obj)} {σ : L2.St} {H : Hp} {s : Shared} {a : Addr} {xs : List V} {m i : Nat} {E : Value → Shared → Prop} {Q : List Value → Shared → Prop} (I0 : Inv X pins σ H s) (hc : X.calm = true) (h : SqT X.K H a xs ∨ SqL X.K H a xs)
    (hi : i < m) (hm : m - 1 ≤ xs.length)
    (hQ : ∀ (us : List Value) (s' : Shared) (L : Addr), H L = none → Inv X pins σ (upd H L (.lst ((xs.drop i).take (xs.length - (m - 1))))) s' → Vals (xs.take i ++ [.ref L] ++ xs.drop (xs.length - (m - 1 - i))) us → Q us s') :
    wpAny (model X.prog X.w) X.A (unpackItems (.ref a) m (some i)) Q E s := by
  have hh := I0.ok.hd hc
  have fin : ∀ (its : List Value) (o : Obj), Vals xs its → xs.length ≤ sizeLine → ∀ (h' : Heap) (tk : Nat), (∀ b u, b ≠ s.heap.objs.size → (s.heap.push o).get? b = some u → h'.get? b = some u) → ∀ mid, mid = (its.toArray.toList.drop i).take (its.toArray.size - (m - 1)) →
      Q (its.toArray.toList.take i ++ [.ref h'.objs.size] ++ its.toArray.toList.drop (its.toArray.size - (m - 1 - i))) { s with heap := h'.push { cls := .type "list", data := .seq mid.toArray }, toks := tk } := by
    intro its o rv hz h' tk hk mid em
    subst em
    have hl := rv.length
    have hsz : its.toArray.size = xs.length := by rw [List.size_toArray, hl]
    have htl : its.toArray.toList = its := by simp
    rw [hsz, htl]
    have I1 : Inv X pins σ H { s with heap := h', toks := tk } := I0.kept fun b u e => hk b u (Nat.ne_of_lt (Heap.lt_size e)) (Heap.get?_push_of_some _ e)
    have hf : H h'.objs.size = none := I1.hok.fresh (Nat.le_refl _)
    refine hQ _ _ h'.objs.size hf (I1.laid (t' := tk) (fun b u e => Heap.get?_push_of_some _ e) (Nat.le_refl _) ?_) (((rv.take i).append (show Vals [V.ref h'.objs.size] [Value.ref h'.objs.size] from .cons rfl .nil)).append (rv.drop _))
    exact ⟨by rw [List.length_take, List.length_drop]; omega, _, 0, (rv.drop i).take _, Heap.get?_push_size _ rfl⟩
  rcases h with h | h
  · obtain ⟨its, rv, ht, hz⟩ := I0.tuple h
    have hne : a ≠ s.heap.objs.size := by obtain ⟨o, ho, _⟩ := ht; exact Nat.ne_of_lt (Heap.lt_size ho)
    have hsz : its.toArray.size = xs.length := by rw [List.size_toArray, rv.length]
    unfold unpackItems
    refine wpAny_bind ?_
    unfold notIterableAtAll
    refine wpAny_bind (wpAny_specialOf ht.typeIs F.slot_tuple_iter.lookup ?_)
    refine wpAny_pure ?_
    simp only [Bool.false_eq_true, if_false]
    refine wpAny_bind (wpAny_holding (wpAny_pyIter_tuple ht ?_))
    refine star_rest (T := "tuple_iterator") (.inr rfl) (Walks.tuple (A := X.A.in1) hh s.heap.objs.size a hne its.toArray) (Walks.tuple hh s.heap.objs.size a hne its.toArray) (fun i s q => q.1.typeIs) ⟨⟨_, Heap.get?_push_size _ rfl, rfl, rfl⟩, IsTup.push ht _⟩ hi (by omega) (by omega) ?_ (fin its _ rv hz)
    rintro i h ⟨⟨o1, q1, _⟩, ⟨o2, q2, _⟩⟩ b hb
    simp at hb
    rcases hb with rfl | rfl
    · exact Heap.lt_size q1
    · exact Heap.lt_size q2
  · obtain ⟨its, rv, pl, hz⟩ := I0.list h
    have ht := pl.isList
    have hne : a ≠ s.heap.objs.size := by obtain ⟨o, ho, _⟩ := ht; exact Nat.ne_of_lt (Heap.lt_size ho)
    have hsz : its.toArray.size = xs.length := by rw [List.size_toArray, rv.length]
    unfold unpackItems
    refine wpAny_bind ?_
    unfold notIterableAtAll
    refine wpAny_bind (wpAny_specialOf ht.typeIs F.slot_list_iter.lookup ?_)
    refine wpAny_pure ?_
    simp only [Bool.false_eq_true, if_false]
    refine wpAny_bind (wpAny_holding (wpAny_pyIter_list ht ?_))
    refine star_rest (T := "list_iterator") (.inl rfl) (Walks.list (A := X.A.in1) hh s.heap.objs.size a hne its.toArray) (Walks.list hh s.heap.objs.size a hne its.toArray) (fun i s q => q.1.typeIs) ⟨⟨_, Heap.get?_push_size _ rfl, rfl, rfl⟩, ?_⟩ hi (by omega) (by omega) ?_ (fin its _ rv hz)
    · obtain ⟨o, ho, r⟩ := ht
      exact ⟨o, Heap.get?_push_of_some _ ho, r⟩
    · rintro i h ⟨⟨o1, q1, _⟩, ⟨o2, q2, _⟩⟩ b hb
      simp at hb
      rcases hb with rfl | rfl
      · exact Heap.lt_size q1
      · exact Heap.lt_size q2
/-- *a among the targets -/
theorem pgs_star {e : Expr} {es : List Expr} {p : Pos} {t : TG} {u : TGs} (h1 : PG X e t) (h2 : PGs X es u) : PGs X (.Starred e p :: es) (gCons t u) := by
  constructor
  intro pins s σ H vs us Q I r h
  obtain ⟨v, vr, rfl, h⟩ := h
  cases r with
  | cons r rr =>
    show wpAny _ _ (assignInOrder (assign e X.env :: (assignEach es X.env).map (·.2)) _) _ _ _
    exact assignInOrder_cons (thn (h1.run pins s σ H _ _ _ I r h) fun _ s1 ⟨σ1, H1, I1, q1⟩ => h2.run pins s1 σ1 H1 _ _ Q I1 rr q1)
/-- (a, *b, c): m targets, the i-th starred -/
def gStar (K : PySem.W.Frag) (m i : Nat) (t : TGs) : TG := fun v σ H Q => ∃ a xs, v = .ref a ∧ (SqT K H a xs ∨ SqL K H a xs) ∧ m - 1 ≤ xs.length ∧ ∀ L, H L = none → t (xs.take i ++ [.ref L] ++ xs.drop (xs.length - (m - 1 - i))) σ (upd H L (.lst ((xs.drop i).take (xs.length - (m - 1))))) Q
theorem pg_star {es : List Expr} {k : Nat} {t : TGs} {m i : Nat} {pos : Pos} (hc : X.calm = true) (h : PGs X es t) (hi : i < m) (hn : (assignEach es X.env).length = m := by rfl) (hs : (assignEach es X.env).findIdx? (·.1) = some i := by rfl) : PG X (.Tuple es k pos) (gStar X.K m i t) := by
  constructor
  rintro pins s σ H v u Q I r ⟨a, xs, rfl, hq, hl, hw⟩
  cases r
  rw [PyProof.Rows.assign_Tuple]
  refine wpAny_bind (wpAny_standAt ?_)
  unfold unpack
  rw [hn, hs]
  exact wpAny_bind (wpAny_holding (unpack_star I hc hq hi hl fun us s' L hL I1 rv => h.run pins s' σ _ _ us Q I1 rv (hw L hL)))
end
/-- (a, *b, c) = data: the starred one a new list of data, or a cell -/
def seqD (M : List Ob) (u : U) : Option (List PyData) := match view M u with
  | some (.list ds) => some ds
  | some (.tuple ds) => some ds
  | _ => none
theorem seqD_ok {K : PySem.W.Frag} {w : Wd} {M : List Ob} {H : Hp} {u : U} {v : V} {ds : List PyData} (h : Hold w M H) (r : RU w u v) (e : seqD M u = some ds) : ∃ a vs, v = .ref a ∧ (SqT K H a vs ∨ SqL K H a vs) ∧ RpL w.F ds vs := by
  unfold seqD at e
  cases q : view M u with
  | none => rw [q] at e; cases e
  | some d =>
    rw [q] at e
    have vo := view_ok h r q
    cases d with
    | list es =>
      cases e
      obtain ⟨p, vs, rfl, hp, rr⟩ := vo
      exact ⟨p, vs, rfl, .inr (SqL.of hp), rr⟩
    | tuple es =>
      cases e
      obtain ⟨p, vs, rfl, hp, rr, _⟩ := vw_tup h.sub vo
      exact ⟨p, vs, rfl, .inl (SqT.of hp), rr⟩
    | _ => cases e
def wgStar (m i : Nat) (wr : WGs) : WG := fun u ρ M Q => ∃ ds, seqD M u = some ds ∧ m - 1 ≤ ds.length ∧ wr ((ds.take i).map U.d ++ [.d (.list ((ds.drop i).take (ds.length - (m - 1))))] ++ (ds.drop (ds.length - (m - 1 - i))).map U.d) ρ M Q
theorem lg_star {K : PySem.W.Frag} {m i : Nat} {gr : TGs} {wr : WGs} (hr : LGs gr wr) : LG (gStar K m i gr) (wgStar m i wr) := fun w M H σ ρ u v Qu Q h e r hq o => by
  obtain ⟨ds, e1, hl, q⟩ := hq
  obtain ⟨a, vs, rfl, ha, rs⟩ := seqD_ok (K := K) h r e1
  have el := rs.length
  refine ⟨a, vs, rfl, ha, by omega, fun L hL => ?_⟩
  have sm : Same w.F (w.put L (.lst ((vs.drop i).take (vs.length - (m - 1))))).F := same_put (h.newF hL)
  have h1 := h.put (o := .lst ((vs.drop i).take (vs.length - (m - 1)))) hL
  have s1 : Step w H _ _ := Step.put (o := .lst ((vs.drop i).take (vs.length - (m - 1)))) h hL
  refine hr h1 (e.grow s1.grow) ?_ q (o.trans s1 h1)
  rw [el]
  exact rus_app (rus_app (RUs.of ((rs.take i).mono sm)) (.cons (RU.D (.lst Wd.putF (((rs.drop i).take (vs.length - (m - 1))).mono sm))) .nil)) (RUs.of ((rs.drop _).mono sm))
end DL

/-! ### f-strings, str of ints -/
namespace DL
open PySem L2
/-- an int's text -/
def itx (i : Int) : Str := toString i
def fFmt : PyData → Option (Str × Prop)
  | .str y => some (y, y.length ≤ sizeLine)
  | .int i => some (itx i, i.natAbs.log2 < 1920)
  | _ => none
def wFmt (we : WE) : WE := fun ρ M Q => we ρ M fun x M1 => ∃ d z C, view M1 x = some d ∧ fFmt d = some (z, C) ∧ C ∧ Q (.d (.str z)) M1
theorem le_fmt {te : TE} {we : WE} (he : LE te we) : LE (tFmt te) (wFmt we) := fun _ _ _ _ _ _ _ h e hq o =>
  he h e hq fun x M1 v w1 H1 s1 h1 r1 q1 => by
    obtain ⟨d, z, C, hv, hz, hC, q⟩ := q1
    have vo := view_ok h1 r1 hv
    have o1 := o.trans s1 h1
    cases d with
    | str y =>
      cases hz
      exact .inl ⟨_, vw_str vo, hC, o1.here h1 (RU.D (.str _)) q⟩
    | int i =>
      cases hz
      exact .inr ⟨i, vw_int vo, hC, o1.here h1 (RU.D (.str _)) q⟩
    | _ => cases hz
def wJs : List WE → Str → Rho → List Ob → (Str → List Ob → Prop) → Prop
  | [], acc, _, M, Q => Q acc M
  | w :: ws, acc, ρ, M, Q => w ρ M fun x M1 => ∃ y, x = .d (.str y) ∧ (acc ++ y).length ≤ sizeLine ∧ wJs ws (acc ++ y) ρ M1 Q
abbrev LJ : List TE → List WE → Prop := Paired LE
theorem lj_nil : LJ [] [] := .nil
theorem lj_cons {t : TE} {w : WE} {ts : List TE} {ws : List WE} (h : LE t w) (r : LJ ts ws) : LJ (t :: ts) (w :: ws) := .cons h r
theorem js_ok {ts : List TE} {ws : List WE} (l : LJ ts ws) : ∀ {w : Wd} {M : List Ob} {H : Hp} {σ : L2.St} {ρ : Rho} {acc : Str} {Qp : Str → List Ob → Prop} {N : Str → Hp → Prop}, Hold w M H → Env w σ ρ → wJs ws acc ρ M Qp →
    (∀ z M' w' H', Step w H w' H' → Hold w' M' H' → Qp z M' → N z H') → tJs ts acc σ H N := by
  induction l with
  | nil => intro w M H σ ρ acc Qp N h e hq o; exact o acc M w H (Step.refl w H) h hq
  | @cons t w1 ts ws hl _ ih =>
    intro w M H σ ρ acc Qp N h e hq o
    refine hl h e hq fun x M1 v w1 H1 s1 h1 r1 q1 => ?_
    obtain ⟨y, hx, hz, q⟩ := q1
    subst hx
    have ev : v = .str y := by
      have r2 : Rp w1.F (.str y) v := r1
      cases r2
      rfl
    exact ⟨y, ev, hz, ih h1 (e.grow s1.grow) q fun z M' w' H' s2 h2 q2 => o z M' w' H' (s1.trans h1 s2) h2 q2⟩
def wJoined (ws : List WE) : WE := fun ρ M Q => wJs ws Str.empty ρ M fun out M1 => Q (.d (.str out)) M1
theorem le_joined {ts : List TE} {ws : List WE} (l : LJ ts ws) : LE (fun σ H Q => tJs ts Str.empty σ H fun out H1 => Q (.str out) H1) (wJoined ws) := fun _ _ _ _ _ _ _ h e hq o =>
  js_ok l h e hq fun z M' w' H' s h' q => o _ _ _ _ _ s h' (RU.D (.str _)) q
/-- str of an int -/
def rStrI : List V → Hp → VK → Prop := fun xs H Q => ∃ i : Int, xs = [.int i] ∧ i.natAbs.log2 < 1920 ∧ Q (.str (toString i)) H
theorem call_strI {X : Cx} : CallR X (.type "str") rStrI := call_str_int
def wStrI : List U → List Ob → (U → List Ob → Prop) → Prop := fun us M Q => ∃ u i, us = [u] ∧ view M u = some (.int i) ∧ i.natAbs.log2 < 1920 ∧ Q (.d (.str (itx i))) M
theorem lc_strI : LC rStrI wStrI := fun w M H x vx Qu Q h rx hq o => by
  obtain ⟨u, i, rfl, hv, h1, q⟩ := hq
  obtain ⟨v, rfl, r⟩ := rus1 rx
  exact ⟨i, by rw [vw_int (view_ok h r hv)], h1, o.here h (RU.D (.str _)) q⟩
end DL

/-! ### what the top has written: tuples and dicts of words, defaults -/
namespace DL
open PySem L2
theorem absV_rel : ∀ {u : Value} {v : V}, absV u = some v → RelV v u
  | .none, _, h => by cases h; exact rfl
  | .bool _, _, h => by cases h; exact rfl
  | .int _ t, _, h => by cases h; exact ⟨t, rfl⟩
  | .str _ t, _, h => by cases h; exact ⟨t, rfl⟩
  | .bytes _ t, _, h => by cases h; exact ⟨t, rfl⟩
  | .float _ t, _, h => by cases h; exact ⟨t, rfl⟩
  | .ref _, _, h => by cases h; exact rfl
  | .type _, _, h => by cases h; exact rfl
theorem vals_abs : ∀ {us : List Value} {vs : List V}, us.map absV = vs.map some → Vals vs us
  | [], [], _ => .nil
  | [], _ :: _, h => by cases h
  | _ :: _, [], h => by cases h
  | u :: us, v :: vs, h => by
    rw [List.map_cons, List.map_cons] at h
    injection h with h1 h2
    exact .cons (absV_rel h1) (vals_abs h2)
/-- at a: a tuple of the words -/
def WrT (K : PySem.W.Frag) (a : Addr) (ss : List Str) : Prop := ∃ (o : Obj) (its : Array Value) (n : Nat), K.lookup a = some o ∧ o.cls = .type "tuple" ∧ o.data = .seq its n ∧ its.size ≤ sizeLine ∧ Vals (ss.map V.str) its.toList
theorem wrT_mk {K : PySem.W.Frag} {a : Addr} {od : Option Addr} {its : Array Value} {n : Nat} {sl : Array (Option Value)} {ss : List Str} (l : K.lookup a = some ⟨.type "tuple", od, .seq its n, sl⟩) (q : its.toList.map absV = (ss.map V.str).map some) (h : ss.length ≤ 1000) : WrT K a ss := by
  refine ⟨_, its, n, l, rfl, rfl, ?_, vals_abs q⟩
  have e := congrArg List.length q
  simp only [List.length_map, Array.length_toList] at e
  have hsl : 1000 ≤ sizeLine := by decide
  omega
theorem inV_s (z : Str) : ∀ ss : List Str, inV (.str z) (ss.map V.str) = decide (z ∈ ss)
  | [] => rfl
  | s :: ss => by
    have ih := inV_s z ss
    unfold inV at ih ⊢
    rw [List.map_cons, List.any_cons, ih, Bool.eq_iff_iff]
    have e : eqV (.str s) (.str z) = (s == z) := rfl
    rw [e]
    simp only [Bool.or_eq_true, decide_eq_true_eq, List.mem_cons, beq_iff_eq]
    exact ⟨fun h => h.imp Eq.symm id, fun h => h.imp Eq.symm id⟩
theorem flat_s (ss : List Str) : (ss.map V.str).all flatV = true := by
  rw [List.all_eq_true]
  intro x hx
  obtain ⟨s, _, rfl⟩ := List.mem_map.mp hx
  rfl
/-- z in the written words -/
def wHas (a : Addr) (ss : List Str) : R2' := fun x y M Q => y = .v (.ref a) ∧ ∃ z, view M x = some (.str z) ∧ Q (.d (.bool (decide (z ∈ ss)))) M
def wHasnt (a : Addr) (ss : List Str) : R2' := fun x y M Q => y = .v (.ref a) ∧ ∃ z, view M x = some (.str z) ∧ Q (.d (.bool (!decide (z ∈ ss)))) M
theorem lr_inT {K : PySem.W.Frag} {a : Addr} {ss : List Str} (h : WrT K a ss) : LR (rIn K false) (wHas a ss) := fun w M H x y vx vy Qu Q hh rx ry hq o => by
  obtain ⟨rfl, z, ez, q⟩ := hq
  have ey : vy = .ref a := ry
  subst ey
  have ex := vw_str (view_ok hh rx ez)
  subst ex
  refine ⟨a, ss.map V.str, rfl, .inr (.inr h), rfl, flat_s ss, ?_⟩
  show Q (.bl (inV (.str z) (ss.map V.str))) H
  rw [inV_s]
  exact o.here hh (RU.D (.bl _)) q
theorem lr_notInT {K : PySem.W.Frag} {a : Addr} {ss : List Str} (h : WrT K a ss) : LR (rIn K true) (wHasnt a ss) := fun w M H x y vx vy Qu Q hh rx ry hq o => by
  obtain ⟨rfl, z, ez, q⟩ := hq
  have ey : vy = .ref a := ry
  subst ey
  have ex := vw_str (view_ok hh rx ez)
  subst ex
  refine ⟨a, ss.map V.str, rfl, .inr (.inr h), rfl, flat_s ss, ?_⟩
  show Q (.bl (!inV (.str z) (ss.map V.str))) H
  rw [inV_s]
  exact o.here hh (RU.D (.bl _)) q
theorem x_inS {X : Cx} {K : PySem.W.Frag} (h : X.K = K) : OpR X (compareOp .In) (rIn K false) := h ▸ op_in_seq
theorem x_notInS {X : Cx} {K : PySem.W.Frag} (h : X.K = K) : OpR X (compareOp .NotIn) (rIn K true) := h ▸ op_notIn_seq
/-! a dict of words to ints -/
def wordOf : Value → Option Str
  | .str s _ => some s
  | _ => none
def kv (e : DictEntry) : Option Str × Option V := (wordOf e.key, absV e.val)
def WrDg {α : Type} (cv : α → V) (K : PySem.W.Frag) (w : World) (a : Addr) (kvs : List (Str × α)) : Prop := ∃ es n, KDict K w a es n ∧ es.toList.map kv = kvs.map fun p => (some p.1, some (cv p.2))
abbrev WrD : PySem.W.Frag → World → Addr → List (Str × Int) → Prop := WrDg V.int
abbrev WrDs : PySem.W.Frag → World → Addr → List (Str × Str) → Prop := WrDg V.str
theorem wrD_mk {α : Type} {cv : α → V} {K : PySem.W.Frag} {w : World} {a : Addr} {es : Array DictEntry} {n : Nat} {kvs : List (Str × α)} (l : K.lookup a = some ⟨.type "dict", none, .dict es n, #[]⟩) (k : PySem.W.KeysLit w.params es.toList) (low : (a == sysModules) = false)
    (q : es.toList.map kv = kvs.map fun p => (some p.1, some (cv p.2))) : WrDg cv K w a kvs := ⟨es, n, ⟨l, k, low⟩, q⟩
theorem word_key {v : Value} {s : Str} (h : wordOf v = some s) : ∃ t, v = .str s t := by
  cases v <;> first | (cases h; exact ⟨_, rfl⟩) | cases h
theorem find_kv {α : Type} {cv : α → V} (z : Str) : ∀ {es : List DictEntry} {kvs : List (Str × α)}, es.map kv = kvs.map (fun p => (some p.1, some (cv p.2))) →
    es.any (·.refKey) = false ∧ (∀ i, kvs.lookup z = some i → ∃ e, es.find? (·.key.isStr z) = some e ∧ RelV (cv i) e.val) ∧ (kvs.lookup z = none → es.find? (·.key.isStr z) = none)
  | [], [], _ => ⟨rfl, fun i h => (by cases h), fun _ => rfl⟩
  | [], _ :: _, h => by cases h
  | _ :: _, [], h => by cases h
  | e :: es, (k, i) :: kvs, h => by
    rw [List.map_cons, List.map_cons] at h
    injection h with h1 h2
    obtain ⟨h3, h4⟩ := Prod.mk.inj h1
    obtain ⟨t, h5⟩ := word_key h3
    obtain ⟨a1, a2, a3⟩ := find_kv z h2
    have hk : e.key.isStr z = (k == z) := by rw [h5]; rfl
    refine ⟨?_, fun j hj => ?_, fun hj => ?_⟩
    · rw [List.any_cons, a1]
      have : e.refKey = false := by unfold DictEntry.refKey; rw [h5]
      rw [this]; rfl
    · rw [List.lookup_cons] at hj
      by_cases hz : k = z
      · subst hz
        rw [beq_self_eq_true] at hj
        cases hj
        exact ⟨e, by rw [List.find?_cons, hk, beq_self_eq_true], absV_rel h4⟩
      · have e1 : (z == k) = false := by simpa using fun q : z = k => hz q.symm
        have e2 : (k == z) = false := by simpa using hz
        rw [e1] at hj
        obtain ⟨e', b1, b2⟩ := a2 j hj
        exact ⟨e', by rw [List.find?_cons, hk, e2]; exact b1, b2⟩
    · rw [List.lookup_cons] at hj
      by_cases hz : k = z
      · subst hz
        rw [beq_self_eq_true] at hj
        cases hj
      · have e1 : (z == k) = false := by simpa using fun q : z = k => hz q.symm
        have e2 : (k == z) = false := by simpa using hz
        rw [e1] at hj
        rw [List.find?_cons, hk, e2]; exact a3 hj
theorem wrD_at {α : Type} {cv : α → V} {K : PySem.W.Frag} {w : World} {a : Addr} {kvs : List (Str × α)} (h : WrDg cv K w a kvs) (z : Str) : ∃ r, PySem.W.nsIn K a z = some r ∧ r.isSome = (kvs.lookup z).isSome ∧ ∀ i, kvs.lookup z = some i → ∃ u, r = some u ∧ RelV (cv i) u := by
  obtain ⟨es, n, D, q⟩ := h
  obtain ⟨a1, a2, a3⟩ := find_kv z q
  unfold PySem.W.nsIn
  rw [D.at_]
  dsimp only
  cases e : kvs.lookup z with
  | none => rw [a3 e]; dsimp only; rw [a1]; exact ⟨none, rfl, rfl, fun i h => (by cases h)⟩
  | some i =>
    obtain ⟨e', b1, b2⟩ := a2 i e
    rw [b1]
    exact ⟨some e'.val, rfl, rfl, fun j h => (by cases h; exact ⟨_, rfl, b2⟩)⟩
def rKd (K : PySem.W.Frag) (a : Addr) : R2 := fun x y H Q => ∃ (z : Str) (r : Option Value), x = .str z ∧ y = .ref a ∧ PySem.W.nsIn K a z = some r ∧ Q (.bl r.isSome) H
def rKdN (K : PySem.W.Frag) (a : Addr) : R2 := fun x y H Q => ∃ (z : Str) (r : Option Value), x = .str z ∧ y = .ref a ∧ PySem.W.nsIn K a z = some r ∧ Q (.bl (!r.isSome)) H
theorem x_inKd {α : Type} {cv : α → V} {X : Cx} {K : PySem.W.Frag} {w : World} {a : Addr} {kvs : List (Str × α)} (h : X.K = K) (hw : X.w = w) (D : WrDg cv K w a kvs) : OpR X (compareOp .In) (rKd K a) := by
  subst h; subst hw
  obtain ⟨es, n, D, _⟩ := D
  exact op_in_kd D
theorem x_notInKd {α : Type} {cv : α → V} {X : Cx} {K : PySem.W.Frag} {w : World} {a : Addr} {kvs : List (Str × α)} (h : X.K = K) (hw : X.w = w) (D : WrDg cv K w a kvs) : OpR X (compareOp .NotIn) (rKdN K a) := by
  subst h; subst hw
  obtain ⟨es, n, D, _⟩ := D
  exact op_notIn_kd D
def wHasD (a : Addr) {α : Type} (kvs : List (Str × α)) : R2' := fun x y M Q => y = .v (.ref a) ∧ ∃ z, view M x = some (.str z) ∧ Q (.d (.bool (kvs.lookup z).isSome)) M
def wHasntD (a : Addr) {α : Type} (kvs : List (Str × α)) : R2' := fun x y M Q => y = .v (.ref a) ∧ ∃ z, view M x = some (.str z) ∧ Q (.d (.bool (!(kvs.lookup z).isSome))) M
theorem lr_inKd {α : Type} {cv : α → V} {K : PySem.W.Frag} {w : World} {a : Addr} {kvs : List (Str × α)} (D : WrDg cv K w a kvs) : LR (rKd K a) (wHasD a kvs) := fun w M H x y vx vy Qu Q hh rx ry hq o => by
  obtain ⟨rfl, z, ez, q⟩ := hq
  have ey : vy = .ref a := ry
  subst ey
  have ex := vw_str (view_ok hh rx ez)
  subst ex
  obtain ⟨r, h1, h2, _⟩ := wrD_at D z
  refine ⟨z, r, rfl, rfl, h1, ?_⟩
  rw [h2]
  exact o.here hh (RU.D (.bl _)) q
theorem lr_notInKd {α : Type} {cv : α → V} {K : PySem.W.Frag} {w : World} {a : Addr} {kvs : List (Str × α)} (D : WrDg cv K w a kvs) : LR (rKdN K a) (wHasntD a kvs) := fun w M H x y vx vy Qu Q hh rx ry hq o => by
  obtain ⟨rfl, z, ez, q⟩ := hq
  have ey : vy = .ref a := ry
  subst ey
  have ex := vw_str (view_ok hh rx ez)
  subst ex
  obtain ⟨r, h1, h2, _⟩ := wrD_at D z
  refine ⟨z, r, rfl, rfl, h1, ?_⟩
  rw [h2]
  exact o.here hh (RU.D (.bl _)) q
/-- D[z] -/
def wGetD (a : Addr) (kvs : List (Str × Int)) : R2' := fun x y M Q => x = .v (.ref a) ∧ ∃ z i, view M y = some (.str z) ∧ kvs.lookup z = some i ∧ Q (.d (.int i)) M
theorem x_ixKd {X : Cx} {K : PySem.W.Frag} {w : World} (h : X.K = K) (hw : X.w = w) : IxR X (rIxD K w) := by
  subst h; subst hw; exact ix_kdict
theorem lr_getKd {K : PySem.W.Frag} {w : World} {a : Addr} {kvs : List (Str × Int)} (D : WrD K w a kvs) : LR (rIxD K w) (wGetD a kvs) := fun w M H x y vx vy Qu Q hh rx ry hq o => by
  obtain ⟨rfl, z, i, ez, hi, q⟩ := hq
  have ex : vx = .ref a := rx
  subst ex
  have ey := vw_str (view_ok hh ry ez)
  subst ey
  obtain ⟨r, h1, h2, h3⟩ := wrD_at D z
  obtain ⟨u, rfl, ru⟩ := h3 i hi
  obtain ⟨es, n, D, _⟩ := D
  exact ⟨a, z, .int i, rfl, rfl, ⟨es, n, u, D.at_, D.lit, h1, ru⟩, o.here hh (RU.D (.int _)) q⟩
def wGetS (a : Addr) (kvs : List (Str × Str)) : R2' := fun x y M Q => x = .v (.ref a) ∧ ∃ z i, view M y = some (.str z) ∧ kvs.lookup z = some i ∧ Q (.d (.str i)) M
theorem lr_getKs {K : PySem.W.Frag} {w : World} {a : Addr} {kvs : List (Str × Str)} (D : WrDs K w a kvs) : LR (rIxD K w) (wGetS a kvs) := fun w M H x y vx vy Qu Q hh rx ry hq o => by
  obtain ⟨rfl, z, i, ez, hi, q⟩ := hq
  have ex : vx = .ref a := rx
  subst ex
  have ey := vw_str (view_ok hh ry ez)
  subst ey
  obtain ⟨r, h1, h2, h3⟩ := wrD_at D z
  obtain ⟨u, rfl, ru⟩ := h3 i hi
  obtain ⟨es, n, D, _⟩ := D
  exact ⟨a, z, .str i, rfl, rfl, ⟨es, n, u, D.at_, D.lit, h1, ru⟩, o.here hh (RU.D (.str _)) q⟩
/-! ### a def with defaults -/
section
open PySem.Spec PyProof.Rows
variable {P : Program} {w : World} {K : PySem.W.Frag} {mg : Str → Option Value} {base : Heap} {x qual : Str} {st : Stmt} {dvs : List V} {f : Addr} {fd : FuncData}
abbrev FunF (K : PySem.W.Frag) (x qual : Str) (st : Stmt) (dvs : List V) (f : Addr) (fd : FuncData) : Prop := FunD K x qual (defArgs st) (defBody st) (defScope st) dvs [] f fd
theorem funF_mk {oc : Value} {od an : Option Addr} {osl : Array (Option Value)} {kV doc pm cdv ct : Value} {T : Addr} {tc : Value} {td : Option Addr} {its : Array Value} {n : Nat} {tl : Array (Option Value)} (l : K.lookup f = some ⟨oc, od, .func (PySem.W.fnOf x qual (defArgs st) (defBody st) (defScope st) (.ref T) kV doc pm an cdv ct), osl⟩)
    (lT : K.lookup T = some ⟨tc, td, .seq its n, tl⟩) (q : its.toList.map absV = dvs.map some) (hd : dvs ≠ [])
    (c : PySem.W.codeIn K cdv qual = true) (k : PySem.W.keepIn K (.ref f) = true) : FunF K x qual st dvs f (PySem.W.fnOf x qual (defArgs st) (defBody st) (defScope st) (.ref T) kV doc pm an cdv ct) :=
  ⟨⟨oc, od, .ref T, kV, doc, pm, an, cdv, ct, osl, rfl, l, c, .inr ⟨hd, T, _, its.toList, n, rfl, lT, by simp, vals_abs q⟩, .inl rfl⟩, k⟩
theorem okF {N ps : List Str} {k : Nat} {sp : Sp} (F : FunF K x qual st dvs f fd) (S : FnScope N ps (defScope st)) (len : ∀ vs H Q E, sp vs H Q E → vs.length = ps.length)
    (hb : ∀ (cdv : Value) (A : Around) (outer : List PySem.Env) (s : Shared) (H : Hp) (vs : List V) (Q : VK) (E : XK), Room k (A.deeper (envOfC qual (defScope st) s.heap.objs.size f cdv)) → sp vs H Q E →
      ∃ t, PSs (cxOf CX0 P w K mg base N qual (defScope st) f cdv A outer s H E).nox (defBody st) t ∧ t { nx := fun _ H' => Q .non H', rt := Q } (start N vs) H) : FnOk P w K mg base CX0 (k + 1) f fd ps sp := by
  refine FunD.ok F S len fun cdv A outer s H vs Q E hr hsp => ?_
  obtain ⟨t, h1, h2⟩ := hb cdv A outer s H vs Q E hr hsp
  exact ⟨t, h1.nox, h2⟩
theorem okFG {N ps : List Str} {k : Nat} {sp : Sp} (F : FunF K x qual st dvs f fd) (S : FnScope N ps (defScope st)) (hn : ∀ vs H Q E, sp vs H Q E → vs.length = ps.length)
    (hb : ∀ (cdv : Value) (A : Around) (fr : List PySem.Env) (s : Shared) (H : Hp) (vs : List V) (Q : VK) (E : XK), Calm (A.deeper (envOfC qual (defScope st) s.heap.objs.size f cdv)) → Room k (A.deeper (envOfC qual (defScope st) s.heap.objs.size f cdv)) → sp vs H Q E →
      ∃ t, PSs (cxOf CX0 P w K mg base N qual (defScope st) f cdv A fr s H E).nox (defBody st) t ∧ t { nx := fun _ H' => Q .non H', rt := Q } (start N vs) H) : GnOk P w K mg base CX0 (k + 1) f fd ps sp := by
  obtain ⟨oc, od, dV, kV, doc, pm, an, cdv, ct, osl, rfl, hl, hc, _, _⟩ := F.ex
  refine gn_of hl hc S hn fun A fr s H vs Q E cm rm hsp => ?_
  obtain ⟨t, h1, h2⟩ := hb cdv A fr s H vs Q E cm rm hsp
  exact ⟨t, h1.nox, h2⟩
/-- all given -/
theorem FunF.all {ps : List Str} (F : FunF K x qual st dvs f fd) (hd : dvs ≠ [])
    (h : ∀ (T : Addr) (kV doc pm : Value) (an : Option Addr) (cdv ct : Value) (us its : List Value), us.length = ps.length → its.length = dvs.length →
      ∃ k, bindArgs (PySem.W.fnOf x qual (defArgs st) (defBody st) (defScope st) (.ref T) kV doc pm an cdv ct) ⟨us, []⟩ = seqItems? (.ref T) >>= k ∧ k (some its.toArray) = pure (ps.zip us)) : Binds K fd ps [] := by
  obtain ⟨ds, r, b⟩ := FunD.binds1 (ps := ps) F ps.length dvs.length hd (by omega) fun T kV doc pm an cdv ct us its l1 l2 => by
    obtain ⟨k, e1, e2⟩ := h T kV doc pm an cdv ct us its l1 l2
    exact ⟨k, e1, by rw [e2, ← l2, List.drop_length, List.append_nil]⟩
  rw [List.drop_length] at r
  cases r
  exact b
end
end DL

/-! ### dict.update, sum of ints, in of a tuple of tuples -/
namespace DL
open PySem L2
section
open PySem.Spec PyProof.Rows
variable {X : Cx}
def rUpd : V → List V → Hp → VK → Prop := fun x vs H Q => ∃ (a b : Addr) (kvs more : List (Key × V)), x = .ref a ∧ vs = [.ref b] ∧ a ≠ b ∧ H a = some (.dK kvs) ∧ H b = some (.dK more) ∧ kvs.length + more.length ≤ sizeLine ∧ Q .non (upd H a (.dK (mergeK kvs more)))
theorem x_update : MtR X "dict.update" rUpd := by
  intro pins s σ H x vs v us Q I rx rv h
  obtain ⟨a, b, kvs, more, rfl, rfl, hne, e1, e2, hz, q⟩ := h
  obtain rfl : v = Value.ref a := rx
  cases rv with
  | cons r t =>
    cases t
    cases r
    obtain ⟨z1, d1, vs1, rel1, dd1⟩ := dk_of I.hok e1
    obtain ⟨z2, d2, vs2, rel2, dd2⟩ := dk_of I.hok e2
    refine call_meetsIn PySem.F.slot_dict_update dd1.typeIs PySem.F.entry_dict_update (PySem.F.args_dict_update_2 _ _) (meets_dict_update (mixKind X.prog X.w) a b hne d2) ⟨vs1, vs2, dd1, dd2, by rw [← rel1.length, ← rel2.length]; exact hz, fun h' dd' _ hs => ?_⟩
    have he : ∃ q, h'.get? a = some q := let ⟨q, _, _, hq, _⟩ := dd'; ⟨q, hq⟩
    have hl := length_mergeK more kvs
    exact ⟨.non, _, d_write (t' := s.toks) I (by rw [e1]; exact True.intro) hs he (dk_new (by omega) d1 (KV.merge rel2 rel1) dd'), rfl, q⟩
/-- x in a tuple of data -/
def rInDT (K : PySem.W.Frag) : R2 := fun x y H Q => ∃ d ds, Dp K H x d ∧ Dp K H y (.tuple ds) ∧ SeqAt.shaped d = true ∧ SeqAt.shaped (.tuple ds) = true ∧ Q (.bl (ds.any fun z => PyData.eqv z d)) H
theorem op_inDT (hu : X.A.units + 65 < cLine) : OpR X (compareOp .In) (rInDT X.K) := by
  intro pins s σ H x y v u Q I rx ry h
  obtain ⟨d, ds, hd, he, sd, se, q⟩ := h
  obtain ⟨as, r1⟩ := Dp.reads I d x v hd rx
  obtain ⟨bs, r2⟩ := Dp.reads I (.tuple ds) y u he ry
  exact SeqAt.in_tuple_reads r2 r1 (SeqAt.canLay_of_shaped se) (SeqAt.canLay_of_shaped sd) (room_in_shaped sd hu) ⟨.bl _, H, I, rfl, q⟩
end
theorem x_inDT {X : Cx} {K : PySem.W.Frag} (h : X.K = K) (hu : X.A.units + 65 < cLine) : OpR X (compareOp .In) (rInDT K) := h ▸ op_inDT hu
def wInDT : R2' := fun x y M Q => ∃ a ds, view M x = some a ∧ view M y = some (.tuple ds) ∧ SeqAt.shaped a = true ∧ SeqAt.shaped (.tuple ds) = true ∧ Q (.d (.bool (ds.any fun z => PyData.eqv z a))) M
theorem lr_inDT {K : PySem.W.Frag} : LR (rInDT K) wInDT := fun w M H x y vx vy Qu Q h rx ry hq o => by
  obtain ⟨a, ds, ea, eb, s1, s2, q⟩ := hq
  exact ⟨a, ds, (view_ok h rx ea).dp h.sub, (view_ok h ry eb).dp h.sub, s1, s2, o.here h (RU.D (.bl _)) q⟩
/-- update -/
def mergeD (kvs more : List (Key × PyData)) : List (Key × PyData) := more.foldl (fun acc kv => putD acc kv.1 kv.2) kvs
theorem mergeD_ok {F : Hp} : ∀ {more : List (Key × PyData)} {ms : List (Key × V)} {kvs : List (Key × PyData)} {ks : List (Key × V)}, KRel F more ms → KRel F kvs ks → KRel F (mergeD kvs more) (mergeK ks ms) := by
  intro more ms kvs ks r
  induction r generalizing kvs ks with
  | nil => exact id
  | @cons p q ps qs h t ih =>
    intro r0
    have e := putD_ok r0 h.2 p.1
    have e2 : mergeK ks (q :: qs) = mergeK (putK ks p.1 q.2) qs := by rw [h.1]; rfl
    rw [e2]
    exact ih e
def isDic (x : U) (M : List Ob) : Prop := ∃ n kvs, x = .p n ∧ M[n]? = some (.dic kvs)
theorem ty_dict {K : PySem.W.Frag} : TyOk K "dict" isDic := fun w M H x v h r t => by
  obtain ⟨n, kvs, rfl, hm⟩ := t
  obtain ⟨a, ob, rfl, _, ho, ks, rfl, _⟩ := cell_at h r hm (fun q => nomatch q)
  exact .inr (.inr (.inl ⟨rfl, .inl ⟨ks, ho⟩⟩))
def wUpd : WM := fun x ys M Q => ∃ n m kvs more, x = .p n ∧ ys = [.p m] ∧ n ≠ m ∧ M[n]? = some (.dic kvs) ∧ M[m]? = some (.dic more) ∧ kvs.length + more.length ≤ sizeLine ∧ Q (.d .none) (M.set n (.dic (mergeD kvs more)))
theorem lm_upd : LM rUpd wUpd := fun w M H x vx ys vs Qu Q h rx rs hq o => by
  obtain ⟨n, m, kvs, more, rfl, rfl, hne, hm, hm2, hl, q⟩ := hq
  obtain ⟨v, rfl, r⟩ := rus1 rs
  obtain ⟨a, ob, rfl, ha, ho, ks, rfl, r1⟩ := cell_at h rx hm (fun q => nomatch q)
  obtain ⟨b, ob, rfl, hb, hob, ms, rfl, r2⟩ := cell_at h r hm2 (fun q => nomatch q)
  have hab : a ≠ b := fun e => by
    subst e
    obtain ⟨h1, e1⟩ := List.getElem?_eq_some_iff.mp ha
    obtain ⟨h2, e2⟩ := List.getElem?_eq_some_iff.mp hb
    rcases Nat.lt_trichotomy n m with c | c | c
    · exact (List.pairwise_iff_getElem.mp (List.nodup_iff_pairwise_ne.mp h.nd) n m h1 h2 c) (e1.trans e2.symm)
    · exact hne c
    · exact (List.pairwise_iff_getElem.mp (List.nodup_iff_pairwise_ne.mp h.nd) m n h2 h1 c) (e2.trans e1.symm)
  exact ⟨a, b, ks, ms, rfl, rfl, hab, ho, hob, by rw [← Paired.length r1, ← Paired.length r2]; exact hl, set_out h ha hm (fun q => nomatch q) (RO.Dic (mergeD_ok r2 r1)) (RU.D .non) q o⟩
/-- sum of ints -/
def intsOf : List PyData → Option (List Int)
  | [] => some []
  | .int i :: ds => match intsOf ds with
    | some is => some (i :: is)
    | none => none
  | _ :: _ => none
theorem intsOf_ok {F : Hp} : ∀ {ds : List PyData} {vs : List V} {bs : List Int}, RpL F ds vs → intsOf ds = some bs → vs = bs.map V.int
  | _, _, _, .nil, e => by cases e; rfl
  | .int b :: ds, _, bs, .cons r t, e => by
    have e' : (match intsOf ds with | some bs => some (b :: bs) | none => none) = some bs := e
    cases q : intsOf ds with
    | none => rw [q] at e'; cases e'
    | some cs =>
      rw [q] at e'; cases e'
      cases r
      rw [intsOf_ok t q]; rfl
  | .none :: _, _, _, .cons _ _, e => by cases e
  | .bool _ :: _, _, _, .cons _ _, e => by cases e
  | .str _ :: _, _, _, .cons _ _, e => by cases e
  | .list _ :: _, _, _, .cons _ _, e => by cases e
  | .tuple _ :: _, _, _, .cons _ _, e => by cases e
  | .dict _ :: _, _, _, .cons _ _, e => by cases e
theorem intsOf_map : ∀ bs : List Int, intsOf (bs.map PyData.int) = some bs
  | [] => rfl
  | b :: bs => by
    show (match intsOf (bs.map PyData.int) with | some bs => some (b :: bs) | none => none) = _
    rw [intsOf_map bs]
theorem x_sum {X : Cx} {K : PySem.W.Frag} (h : X.K = K) (hc : X.calm = true) : CallR X (.builtin "sum") (rSum K) := h ▸ cr_sum hc
def wSum : List U → List Ob → (U → List Ob → Prop) → Prop := fun us M Q => ∃ u ds is, us = [u] ∧ view M u = some (.list ds) ∧ intsOf ds = some is ∧ Q (.d (.int is.sum)) M
theorem lc_sum {K : PySem.W.Frag} : LC (rSum K) wSum := fun w M H x vx Qu Q h rx hq o => by
  obtain ⟨u, ds, is, rfl, e, e2, q⟩ := hq
  obtain ⟨v, rfl, r⟩ := rus1 rx
  obtain ⟨p, vs, rfl, hp, r1⟩ := view_ok h r e
  have e3 := intsOf_ok r1 e2
  subst e3
  exact ⟨p, is, rfl, SqL.of hp, o.here h (RU.D (.int _)) q⟩
/-! ### t[::-1] of a tuple -/
section
open PySem.Spec PyProof.Rows HT
variable {prog : Program} {w : World} {A : Around} {E : Value → Shared → Prop} {s : Shared}
theorem places_rev (n : Nat) : Builtin.Slice.slicePlaces ((n : Int) - 1) (-1) (-1) = n := by
  unfold Builtin.Slice.slicePlaces
  have h1 : ¬ ((-1 : Int) > 0) := by omega
  have e : (- -1 : Int) = 1 := by decide
  simp only [h1, if_false, e, Int.ediv_one]
  split <;> omega
theorem sliceApplied_rev {sl : Addr} {vs : Value} {n : Nat} {Q : Int × Int × Nat → Shared → Prop} (hs : s.heap.IsSliceOf sl .none .none vs) (ps : IsPart vs (some (-1)))
    (h : Q ((n : Int) - 1, -1, n) s) : wpAny (model prog w) A (Builtin.Slice.sliceApplied (.ref sl) (pure (n : Int))) Q E s := by
  obtain ⟨os, hos, hcs, hds⟩ := id hs
  unfold Builtin.Slice.sliceApplied Builtin.Slice.sliceFields
  refine wpAny_bind (wpAny_bind (wpAny_field hos hds (x := .none) rfl (wpAny_bind (wpAny_field hos hds (x := .none) rfl (wpAny_bind (wpAny_field hos hds (x := vs) rfl (wpAny_pure ?_)))))))
  refine wpAny_bind (slicePart_ ps ?_)
  show wpAny _ _ (if ((-1 : Int) == 0) = true then _ else _) _ _ s
  rw [if_neg (by decide)]
  refine wpAny_bind (slicePart_ .none (wpAny_bind (slicePart_ .none (wpAny_bind (wpAny_pure ?_)))))
  show wpAny _ _ (pure ((n : Int) - 1, (-1 : Int), Builtin.Slice.slicePlaces ((n : Int) - 1) (-1) (-1))) _ _ s
  rw [places_rev]
  exact wpAny_pure h
theorem fm_congr {α β : Type} {f g : α → Option β} : ∀ {l : List α}, (∀ x ∈ l, f x = g x) → l.filterMap f = l.filterMap g
  | [], _ => rfl
  | x :: l, h => by rw [List.filterMap_cons, List.filterMap_cons, h x List.mem_cons_self, fm_congr fun y hy => h y (List.mem_cons_of_mem _ hy)]
theorem pick_rev (xs : Array Value) : ((List.range xs.size).filterMap fun (k : Nat) => xs[((xs.size : Int) - 1 + (k : Int) * -1).toNat]?).toArray = xs.toList.reverse.toArray := by
  have e : ((List.range xs.size).filterMap fun (k : Nat) => xs[((xs.size : Int) - 1 + (k : Int) * -1).toNat]?) = ((List.range xs.size).map fun k => xs.size - 1 - k).filterMap (xs[·]?) := by
    rw [List.filterMap_map]
    apply fm_congr
    intro k hk
    have := List.mem_range.mp hk
    have e2 : ((xs.size : Int) - 1 + (k : Int) * -1).toNat = xs.size - 1 - k := by omega
    rw [e2]; rfl
  rw [e, PySem.W.krv_range, List.filterMap_reverse, PySem.W.krv_all]
theorem getItem_tuple_rev {t sl : Addr} {items : Array Value} {vs : Value} {Q : Value → Shared → Prop} (ht : IsTup s.heap t items) (hs : s.heap.IsSliceOf sl .none .none vs) (ps : IsPart vs (some (-1)))
    (h : Q (.ref s.heap.objs.size) { s with heap := s.heap.push { cls := .type "tuple", data := .seq items.toList.reverse.toArray } })
    (hsz : items.size ≤ sizeLine) : wpAny (model prog w) A (getItem (.ref t) (.ref sl)) Q E s := by
  have htake : sizeOk (.seq items.toList.reverse.toArray) := by
    show items.toList.reverse.toArray.size ≤ sizeLine
    rw [List.size_toArray, List.length_reverse, Array.length_toList]
    exact hsz
  obtain ⟨os, hos, hcs, hds⟩ := id hs
  have hTs : s.TypeIs (.ref sl) "slice" := ⟨os, hos, hcs⟩
  unfold getItem
  try with_reducible refine wpAny_holding ?_
  first | refine wpAny_bind (wpAny_pure ?_) | skip
  refine wpAny_bind (wpAny_sequenceKey ht.typeIs (by decide) ?_)
  refine wpAny_bind (wpAny_callSpecial?_slot (name := Str.ofString "__getitem__") ht.typeIs PyProof.Rows.slot_tuple_getitem
    (wpAny_call_entry PyProof.Rows.slot_tuple_getitem ht.typeIs entry_tuple_getitem ?_ (args_tuple_getitem _ _)))
  show wpAny _ _ (Builtin.Tuple.tupleItemsOf (.ref t) >>= _) _ _ s
  refine wpAny_bind (tupleItemsOf_ ht ?_)
  refine wpAny_bind (wpAny_typeOf hTs ?_)
  rw [if_pos (by decide)]
  refine wpAny_bind (sliceApplied_rev hs ps ?_)
  have hno : ¬ ((((items.size : Int) - 1) == 0 && (-1 : Int) == 1 && items.size == items.size) = true) := by simp
  show wpAny _ _ (if (((items.size : Int) - 1) == 0 && (-1 : Int) == 1 && items.size == items.size) = true then _ else _) _ _ s
  rw [if_neg hno, pick_rev]
  first
    | exact wpAny_bind (m := Builtin.Tuple.tupleExact _) (wpAny_newObj_type (wpAny_pure ⟨_, rfl, wpAny_pure h⟩) htake)
    | exact wpAny_bind (m := Builtin.Tuple.tupleExact _) (wpAny_newObj_type (wpAny_bind (wpAny_pure (wpAny_pure ⟨_, rfl, wpAny_pure h⟩))) htake)
    | exact wpAny_bind (wpAny_bind (m := Builtin.Tuple.tupleExact _) (wpAny_newObj_type (wpAny_pure (wpAny_pure ⟨_, rfl, wpAny_pure h⟩)) htake))
    | exact wpAny_bind (wpAny_bind (m := Builtin.Tuple.tupleExact _) (wpAny_newObj_type (wpAny_pure ⟨_, rfl, wpAny_pure h⟩) htake))
end
section
open PySem.Spec PyProof.Rows
def tRevT (K : PySem.W.Frag) (te : TE) : TE := fun σ H Q => te σ H fun x H1 => ∃ a xs, x = .ref a ∧ SqT K H1 a xs ∧ ∀ p, H1 p = none → Q (.ref p) (upd H1 p (.tup xs.reverse))
theorem pe_revT {X : Cx} {e : Expr} {te : TE} {k : Nat} {p1 p2 p3 pos : Pos} (he : PE X e te) : PE X (.Subscript e (.Slice none none (some (.UnaryOp .USub (.Constant (.int 1) k p1) p2)) p3) pos) (tRevT X.K te) := by
  refine ⟨fun pins s σ H Q I h => ?_⟩
  refine Subscript_ (thn (he.run pins s σ H _ I h) fun v s1 ⟨x, H1, I1, r1, q1⟩ => ?_)
  obtain ⟨a, xs, ex, hx, q⟩ := q1
  subst ex
  cases r1
  have hst : PO X (some (.UnaryOp .USub (.Constant (.int 1) k p1) p2)) (tPart (tUn (rU fun i => .int (-i)) (tC (.int 1)))) := po_some (pe_un un_neg pe_int)
  refine wpAny_Slice (thn (po_none.run pins s1 σ H1 (fun o H2 => o = none ∧ H2 = H1) I1 ⟨rfl, rfl⟩) fun vl s2 ⟨l, H2, I2, pl, el, e2⟩ => ?_)
  subst el e2
  refine thn (po_none.run pins s2 σ H2 (fun o H3 => o = none ∧ H3 = H2) I2 ⟨rfl, rfl⟩) fun vu s3 ⟨u, H3, I3, pu, eu, e3⟩ => ?_
  subst eu e3
  refine thn (hst.run pins s3 σ H3 (fun o H4 => o = some (-1) ∧ H4 = H3) I3 ⟨1, rfl, -1, rfl, rfl, rfl⟩) fun vs s4 ⟨o, H4, I4, ps, eo, e4⟩ => ?_
  subst eo e4
  cases pl
  cases pu
  have I5 : Inv X pins σ H4 { s4 with heap := s4.heap.push { cls := .type "slice", data := .fields #[.none, .none, vs] } } := I4.kept (t' := s4.toks) fun b ob q => Heap.get?_push_of_some _ q
  obtain ⟨its, r, ht, hz⟩ := I5.tuple hx
  show wpAny (model X.prog X.w) X.A (subscriptTail e (.Slice none none (some (.UnaryOp .USub (.Constant (.int 1) k p1) p2)) p3) (.ref a) (.ref s4.heap.objs.size)) (EP X pins σ Q) X.xe { s4 with heap := s4.heap.push { cls := .type "slice", data := .fields #[.none, .none, vs] } }
  have hlen := r.length
  refine tail_any (ops := [.ref a, .ref s4.heap.objs.size]) ht.typeIs (PyProof.Rows.slot_tuple_getitem.lookup) ?_ (by with_unfolding_all rfl)
  refine getItem_tuple_rev ht (Heap.IsSliceOf.new _ .none .none vs) ps ?_ (by rw [List.size_toArray]; omega)
  refine ⟨.ref _, _, I5.laid (t' := s4.toks) (o := .tup xs.reverse) (fun b ob q => Heap.get?_push_of_some _ q) (Nat.le_refl _) ?_, rfl, q _ (I5.hok.fresh (Nat.le_refl _))⟩
  exact ⟨by rw [List.length_reverse]; exact hz, _, r.reverse, IsTup.new _ _⟩
end
def wRevT (we : WE) : WE := fun ρ M Q => we ρ M fun x M1 => ∃ ds, view M1 x = some (.tuple ds) ∧ Q (.d (.tuple ds.reverse)) M1
theorem le_revT {K : PySem.W.Frag} {te : TE} {we : WE} (he : LE te we) : LE (tRevT K te) (wRevT we) := fun _ _ _ _ _ _ _ h e hq o =>
  he h e hq fun x M1 v w1 H1 s1 h1 r1 q1 => by
    obtain ⟨ds, ed, q⟩ := q1
    obtain ⟨p, vs, rfl, hp, r, k⟩ := vw_tup h1.sub (view_ok h1 r1 ed)
    refine ⟨p, vs, rfl, SqT.of hp, fun l hl => ?_⟩
    exact (o.trans s1 h1) _ _ _ _ _ (Step.put h1 hl) (h1.put hl) (RU.D (.tup Wd.putF (r.reverse.mono (same_put (h1.newF hl))))) q
end DL

namespace DL
open PySem L2
/-! ### an expression is cut off: what follows knows only R of its value -/
def wCutE (we : WE) : WE := fun ρ M Q => ∃ R : U → List Ob → Prop, we ρ M R ∧ ∀ u M1, R u M1 → Q u M1
theorem le_cutE {te : TE} {we : WE} (he : LE te we) : LE te (wCutE we) := fun _ _ _ _ _ _ _ h e ⟨_, hw, hR⟩ o =>
  he h e hw fun _ _ _ _ _ s1 h1 r1 q1 => o _ _ _ _ _ s1 h1 r1 (hR _ _ q1)
end DL

namespace DL
open PySem L2
/-! ### len(set(xs)) of a list of ints -/
/-- each int once, where it is met first -/
def firsts (ns : List Int) : List Int := PyProof.Rows.firstMet (fun i => ns.getD i 0) ns.length
theorem met_all (f : Nat → Int) : ∀ n, (PyProof.Rows.firstMet f n).Nodup ∧ (∀ x, x ∈ PyProof.Rows.firstMet f n ↔ ∃ i, i < n ∧ f i = x) ∧ (PyProof.Rows.firstMet f n).length ≤ n
  | 0 => ⟨List.nodup_nil, fun x => ⟨fun h => (by cases h), fun ⟨i, h, _⟩ => absurd h (Nat.not_lt_zero _)⟩, Nat.le_refl _⟩
  | n + 1 => by
    obtain ⟨a, b, c⟩ := met_all f n
    have e := PyProof.Rows.firstMet_succ f n
    cases hq : (PyProof.Rows.firstMet f n).any (fun z => z == f n) with
    | true =>
      have e2 : PyProof.Rows.firstMet f (n + 1) = PyProof.Rows.firstMet f n := e.trans (if_pos hq)
      obtain ⟨z, hz, ez⟩ := List.any_eq_true.mp hq
      have ez' : z = f n := by simpa using ez
      subst ez'
      rw [e2]
      refine ⟨a, fun x => ⟨fun h => ?_, fun ⟨i, hi, ex⟩ => ?_⟩, by omega⟩
      · obtain ⟨i, hi, ex⟩ := (b x).mp h
        exact ⟨i, by omega, ex⟩
      · by_cases hin : i = n
        · subst hin; rw [← ex]; exact hz
        · exact (b x).mpr ⟨i, by omega, ex⟩
    | false =>
      have e2 : PyProof.Rows.firstMet f (n + 1) = PyProof.Rows.firstMet f n ++ [f n] := e.trans (if_neg (by intro q; exact absurd (hq.symm.trans q) (by decide)))
      rw [e2]
      have hno : f n ∉ PyProof.Rows.firstMet f n := fun hm => by
        have : (PyProof.Rows.firstMet f n).any (fun z => z == f n) = true := List.any_eq_true.mpr ⟨_, hm, by simp⟩
        rw [hq] at this; cases this
      refine ⟨List.nodup_append.mpr ⟨a, by simp, fun x hx y hy => ?_⟩, fun x => ⟨fun h => ?_, fun ⟨i, hi, ex⟩ => ?_⟩, by rw [List.length_append, List.length_singleton]; omega⟩
      · have e3 : y = f n := by simpa using hy
        subst e3
        exact fun q => hno (q ▸ hx)
      · rcases List.mem_append.mp h with h | h
        · obtain ⟨i, hi, ex⟩ := (b x).mp h
          exact ⟨i, by omega, ex⟩
        · exact ⟨n, by omega, (List.mem_singleton.mp h).symm⟩
      · by_cases hin : i = n
        · subst hin; rw [← ex]; exact List.mem_append_right _ (List.mem_singleton.mpr rfl)
        · exact List.mem_append_left _ ((b x).mpr ⟨i, by omega, ex⟩)
theorem firsts_nodup (ns : List Int) : (firsts ns).Nodup := (met_all _ _).1
theorem firsts_len (ns : List Int) : (firsts ns).length ≤ ns.length := (met_all _ _).2.2
theorem firsts_mem (ns : List Int) (x : Int) : x ∈ firsts ns ↔ x ∈ ns := by
  rw [firsts, (met_all _ _).2.1 x]
  constructor
  · rintro ⟨i, hi, rfl⟩
    rw [List.getD_eq_getElem?_getD, List.getElem?_eq_getElem hi]
    exact List.getElem_mem hi
  · intro h
    obtain ⟨i, hi, e⟩ := List.getElem_of_mem h
    exact ⟨i, hi, by rw [List.getD_eq_getElem?_getD, List.getElem?_eq_getElem hi, e]; rfl⟩
def tFew (K : PySem.W.Frag) (t : TE) : TE := fun σ H Q => t σ H fun x H1 => ∃ (p : Addr) (ns : List Int), x = .ref p ∧ SqL K H1 p (ns.map V.int) ∧ ns.length ≤ 4000 ∧ Q (.int ((firsts ns).length : Nat)) H1
section
open PySem.Spec PyProof.Rows
variable {X : Cx} {e : Expr} {t : TE} {p1 p2 p3 p4 : Pos}
theorem pe_lenSetG (g1 : Gl X "len") (m1 : X.mg "len" = none) (g2 : Gl X "set") (m2 : X.mg "set" = none) (he : PE X e t) (calm : X.calm = true := by rfl) (ne : starEach [e] X.env = (false, eval e X.env) :: starEach [] X.env := by rfl) :
    PE X (.Call (.Name "len" p1) [.Call (.Name "set" p2) [e] [] p3] [] p4) (tFew X.K t) := .mk fun pins s σ H Q I h =>
  Call_ (ld_blt I g1 m1 boot_len (PyProof.Rows.callWith_builtin1 (PyProof.Rows.args_cons (Call_ (ld_blt I g2 m2 boot_set
    (PyProof.Rows.callWith_type1 (PyProof.Rows.args_cons (thn (he.run pins s σ H _ I h) fun v s1 ⟨x, H1, I1, r1, q1⟩ => PyProof.Rows.args_nil (by
      obtain ⟨p, ns, rfl, hs, hl, q⟩ := q1
      cases r1
      obtain ⟨its, rv, pl, _⟩ := I1.list hs
      have en : its.toArray.size = ns.length := by rw [List.size_toArray, ← rv.length]; exact List.length_map ..
      refine call_set_list (ns := ns) (I1.ok.hd calm) pl.isList (by simpa using RZ.intsAre_vals rv) (by rw [en]; unfold scanBound; omega) fun h2 tk hS keep => PyProof.Rows.args_nil ?_
      rw [en] at hS
      have hle := firsts_len ns
      obtain ⟨ob, es, ep, tb, ho, hx, hd, _, _, _, hf, hn⟩ := hS
      have I2 : Inv X pins σ H1 { s1 with heap := h2, toks := tk } := I1.kept fun b o eb => keep b o (Heap.lt_size eb) eb
      have hn' : es.size = (firsts ns).length := hn
      exact call_len_set ho hx hd hf (by rw [hn'] <;> omega) ⟨.int ((firsts ns).length : Nat), H1, I2.tok _, ⟨_, by rw [hn']⟩, q⟩)) ne) ne rfl)) ) rfl) rfl rfl))
end
def wFew (we : WE) : WE := fun ρ M Q => we ρ M fun x M1 => ∃ ns : List Int, view M1 x = some (.list (ns.map PyData.int)) ∧ ns.length ≤ 4000 ∧ Q (.d (.int ((firsts ns).length : Nat))) M1
theorem ints_rep {F : Hp} : ∀ {ns : List Int} {vs : List V}, RpL F (ns.map PyData.int) vs → vs = ns.map V.int
  | [], _, .nil => rfl
  | n :: ns, _, .cons r t => by cases r; rw [ints_rep t]; rfl
theorem le_few {K : PySem.W.Frag} {te : TE} {we : WE} (he : LE te we) : LE (tFew K te) (wFew we) := fun _ _ _ _ _ _ _ h e hq o =>
  he h e hq fun _ _ _ _ _ s1 h1 r1 q1 => by
    obtain ⟨ns, ev, hl, q⟩ := q1
    obtain ⟨p, vs, rfl, hp, r⟩ := view_ok h1 r1 ev
    rw [ints_rep r] at hp
    exact ⟨p, ns, rfl, SqL.of hp, hl, (o.trans s1 h1).here h1 (RU.D (.int _)) q⟩
end DL
namespace DL
open PySem L2 PySem.Spec PyProof.Rows
/-! ### str of any data -/
def strD : PyData → Str
  | .str x => x
  | d => d.shown
def rStrG (K : PySem.W.Frag) : List V → Hp → VK → Prop := fun xs H Q => ∃ v d, xs = [v] ∧ Dp K H v d ∧ d.showable = true ∧ d.hasDict = false ∧ d.depth ≤ 60 ∧ d.shown.length ≤ sizeLine ∧ Q (.str (strD d)) H
theorem call_strG {X : Cx} (cm : Calm X.A) (hu : X.A.units + 64 < cLine) : CallR X (.type "str") (rStrG X.K) := by
  intro pins s σ H xs us Q I rv h
  obtain ⟨v, d, rfl, hd, h2, h3, h4, h5, q⟩ := h
  have big : isDisplay d = true → strD d = d.shown → wpAny (model X.prog X.w) X.A (call (.type "str") us) (EP X pins σ Q) X.xe s := fun hi e =>
    call_strB cm hu pins s σ H [v] us Q I rv ⟨v, d, rfl, hd, hi, h2, h3, h4, h5, by rw [← e]; exact q⟩
  cases hd with
  | non =>
    cases rv with
    | cons r t => cases t; cases r; exact PySem.P.str_of_none ⟨.str "None", H, I.tok _, ⟨_, rfl⟩, q⟩
  | bl b =>
    cases rv with
    | cons r t => cases t; cases r; exact PySem.P.str_of_bool ⟨.str (strD (.bool b)), H, I.tok _, ⟨_, by cases b <;> rfl⟩, q⟩
  | int i =>
    cases rv with
    | cons r t => cases t; obtain ⟨tk, rfl⟩ := r; exact PySem.P.str_of_int (of_decide_eq_true h2) ⟨.str _, H, I.tok _, ⟨_, rfl⟩, q⟩
  | str x =>
    cases rv with
    | cons r t => cases t; obtain ⟨tk, rfl⟩ := r; exact PySem.P.str_of_str ⟨.str x, H, I, ⟨_, rfl⟩, q⟩
  | lst _ _ => exact big rfl rfl
  | tup _ _ => exact big rfl rfl
def wStrG : List U → List Ob → (U → List Ob → Prop) → Prop := fun us M Q => ∃ u d, us = [u] ∧ view M u = some d ∧ d.showable = true ∧ d.hasDict = false ∧ d.depth ≤ 60 ∧ d.shown.length ≤ sizeLine ∧ Q (.d (.str (strD d))) M
theorem lc_strG {K : PySem.W.Frag} : LC (rStrG K) wStrG := fun w M H x vx Qu Q h rx hq o => by
  obtain ⟨u, d, rfl, hv, h2, h3, h4, h5, q⟩ := hq
  cases rx with
  | cons r t =>
    cases t
    exact ⟨_, d, rfl, Vw.dp h.sub (view_ok h r hv), h2, h3, h4, h5, o.here h (RU.D (.str _)) q⟩
end DL
namespace DL
open PySem L2
/-! ### xs[::-1] of a list -/
def wRevL (we : WE) : WE := fun ρ M Q => we ρ M fun x M1 => ∃ ds, view M1 x = some (.list ds) ∧ Q (.d (.list ds.reverse)) M1
theorem le_revL {K : PySem.W.Frag} {te : TE} {we : WE} (he : LE te we) : LE (tRevL K te) (wRevL we) := fun _ _ _ _ _ _ _ h e hq o =>
  he h e hq fun x M1 v w1 H1 s1 h1 r1 q1 => by
    obtain ⟨ds, ed, q⟩ := q1
    obtain ⟨p, vs, rfl, hp, r⟩ := view_ok h1 r1 ed
    refine ⟨p, vs, rfl, SqL.of hp, fun l hl => ?_⟩
    exact (o.trans s1 h1) _ _ _ _ _ (Step.put h1 hl) (h1.put hl) (RU.D (.lst Wd.putF (r.reverse.mono (same_put (h1.newF hl))))) q
end DL

namespace DL
open PySem L2 PySem.Spec PyProof.Rows
/-! ### {e for x in xs if t}: a set of ints and texts; its length -/
def fAddK (P : Program) (w : World) (D : Addr) (tt : TT) (te : TE) : L2.St → Hp → (Hp → Prop) → Prop := fun σ H N => tt σ H fun b H1 => if b = true then te σ H1 fun y H2 =>
  ∃ (k : Key) (S : Key → Bool) (n : Nat), y = kV k ∧ H2 D = some (SetK P w D S n) ∧ n + 1 < scanBound ∧ N (upd H2 D (SetK P w D (fun j => S j || decide (j = k)) (if S k = true then n else n + 1))) else N H1
def tScK (P : Program) (w : World) (wi : TI) (g : TG) (tt : TT) (te : TE) (vs : List Nat) : TE := fun σ H Q => wi σ H fun J H1 => ∀ D, H1 D = none →
  ∃ W : Nat → Nat → Hp → Prop, (∃ m, W 0 m (upd H1 D (SetK P w D (fun _ => false) 0))) ∧ fLoop D J g σ vs (fAddK P w D tt te) (Q (.ref D)) W
section
variable {X : Cx}
theorem pe_scK {own : List (PySem.Str × Nat)} {elt tg iter : Expr} {ifs : List Expr} {sc : Scope} {p : Pos} {wi : TI} {g : TG} {tt : TT} {te : TE} (calm : X.calm = true) (hN : X.N.Nodup) (hi : PI X tg iter wi) (ok : BlkOk X.N X.env.scope sc own)
    (pg : ∀ (s : Shared) (H : Hp) (C : Addr) (cl : List (PySem.Str × Addr)) (fp : List Addr), PG (X.blk s H sc (compEnvC sc cl C X.env) fp) tg g)
    (pt : ∀ (s : Shared) (H : Hp) (C : Addr) (cl : List (PySem.Str × Addr)) (fp : List Addr), PTs (X.blk s H sc (compEnvC sc cl C X.env) fp) ifs tt)
    (pe : ∀ (s : Shared) (H : Hp) (C : Addr) (cl : List (PySem.Str × Addr)) (fp : List Addr), PE (X.blk s H sc (compEnvC sc cl C X.env) fp) elt te)
    (hs : ∀ x, foldedSetIterable iter X.env x = pure x := by intro _; rfl) : PE X (.SetComp elt [⟨tg, iter, ifs, 0⟩] sc p) (tScK X.prog X.w wi g tt te (own.map (·.2))) := .mk fun pins s σ H Q I h => by
  have cells : ∀ y ∈ sc.names, y.2 = .free → ∃ c, X.env.cells.lookup y.1 = some c := fun y hy e => (ok.free y hy e).elim (fun q => I.ok.has _ (.inl q)) fun q => I.ok.has _ (.inr q)
  rw [PpSet.eval_SetComp]
  refine wpAny_comprehension_free (use := none) rfl hs (closure_ok cells) ok.kind (fun y hy e => by rw [ok.uniq y hy, e]) (thn (hi.run pins s σ H _ I h) fun xv s1 hx => thn hx fun itv s2 ⟨it, fp, tn, J, H2, e, I2, T, at0, f2, q⟩ => ?_)
  subst e
  refine PpSet.newSet_ok (newEnv_comp ?_)
  obtain ⟨D, hD⟩ : ∃ D, s2.heap.objs.size = D := ⟨_, rfl⟩
  obtain ⟨so, hso⟩ : ∃ so : Obj, ({ cls := .type "set", dict := none, data := .set #[] 0 (.fresh 0 0 (!X.w.params.followText "set-order")) } : Obj) = so := ⟨_, rfl⟩
  obtain ⟨W, ⟨m0, w0⟩, turn⟩ := q D (I2.hok.fresh (Nat.le_of_eq hD))
  have emp : (s2.heap.push so).SetOf (mixKind X.prog X.w) D (fun _ => false) 0 := by
    rw [← hD, ← hso]
    exact ⟨_, #[], 0, _, Heap.get?_push_size _ rfl, ⟨rfl, rfl, rfl⟩, rfl, (fun e he => by simp at he), (fun k => by simp), (by decide), (by rfl), rfl⟩
  rw [hso, hD]
  obtain ⟨s3, hs3⟩ : ∃ s3 : Shared, ({ s2 with heap := s2.heap.push so } : Shared) = s3 := ⟨_, rfl⟩
  obtain ⟨H3, hH3⟩ : ∃ H3, upd H2 D (SetK X.prog X.w D (fun _ => false) 0) = H3 := ⟨_, rfl⟩
  rw [hH3] at w0
  have e3 : s3.heap = s2.heap.push so := by rw [← hs3]
  have I3 : Inv X pins σ H3 s3 := by
    rw [← hs3, ← hH3]
    exact I2.laid (t' := s2.toks) (fun b o z => Heap.get?_push_of_some _ z) (Nat.le_of_eq hD) (setK_new emp)
  have low : ∀ b ∈ fp, b < s2.heap.objs.size := fun b hb => (T.obj _ _ at0 b hb).elim fun o z => Heap.lt_size z.1
  have f3 : ∀ b ∈ fp, FpOk X pins H3 b ∧ b < s3.heap.objs.size := fun b hb =>
    ⟨⟨by rw [← hH3, upd_ne (by rw [← hD]; exact Nat.ne_of_lt (low b hb))]; exact (f2 b hb).1, (f2 b hb).2⟩, by rw [e3, Heap.size_push]; exact Nat.lt_succ_of_lt (low b hb)⟩
  have at3 : tn 0 s3.heap := T.keep _ _ _ at0 fun b _ o z => by rw [e3]; exact Heap.get?_push_of_some _ z
  have I4 := block_start I3 ok hN f3
  rw [show ({ s2 with heap := s2.heap.push so } : Shared).heap = s3.heap by rw [hs3]]
  obtain ⟨cs, hcs⟩ : ∃ cs, cellsFrom (s3.heap.objs.size + 1) sc.names (cloFrom X.env.cells sc.names []) = cs := ⟨_, rfl⟩
  have pg1 := pg s3 H3 s3.heap.objs.size cs fp
  have pt1 := pt s3 H3 s3.heap.objs.size cs fp
  have pe1 := pe s3 H3 s3.heap.objs.size cs fp
  rw [hcs] at I4
  show codeAny _ _ (.compStart (.SetComp elt [⟨tg, iter, ifs, 0⟩] sc p) 0 (.ref it) (.ref D) (compEnvC sc (cellsFrom (s3.heap.objs.size + 1) sc.names (cloFrom X.env.cells sc.names [])) s3.heap.objs.size X.env)) _ { s2 with heap := pushCells (s3.heap.push { cls := .type "dict", data := .dict #[] }) sc.names }
  rw [hcs]
  have off : ∀ b ∈ fp, H3 b = none := fun b hb => (f3 b hb).1.1
  obtain ⟨ce, hce⟩ : ∃ ce, compEnvC sc cs s3.heap.objs.size X.env = ce := ⟨_, rfl⟩
  rw [hce] at I4 pg1 pt1 pe1 ⊢
  have cL : ce.locals = s3.heap.objs.size := by rw [← hce]; rfl
  obtain ⟨s4, hs4⟩ : ∃ s4 : Shared, ({ s2 with heap := pushCells (s3.heap.push { cls := .type "dict", data := .dict #[] }) sc.names } : Shared) = s4 := ⟨_, rfl⟩
  have hs4' : ({ s3 with heap := pushCells (s3.heap.push { cls := .type "dict", data := .dict #[] }) sc.names } : Shared) = s4 := by rw [← hs4, ← hs3]
  rw [hs4'] at I4
  rw [hs4]
  have at4 : tn 0 s4.heap := T.keep _ _ _ at3 fun b _ o z => by rw [← hs4']; exact pushCells_keeps _ _ _ _ (Heap.get?_push_of_some _ z)
  have fps : ∀ {τ : L2.St} {G : Hp} {s' : Shared}, Inv (X.blk s3 H3 sc ce fp) [] τ G s' → (∀ b ∈ fp, G b = none) → ∀ b ∈ fp, FpOk (X.blk s3 H3 sc ce fp) [] G b := fun {τ G s'} J n b hb =>
    ⟨n b hb, (J.ok.exf b hb).1, J.ok.exfs b hb, .inl hb, fun x c z => (J.ok.exf b hb).2 x c z, fun y hy => absurd (show y ∈ ([] : List (Addr × Obj)) ++ [] from hy) (by simp)⟩
  have run : codeAny (model X.prog X.w) X.A (.compLoop (.SetComp elt [⟨tg, iter, ifs, 0⟩] sc p) 0 (.ref it) (.ref D) ce) (compPost (model X.prog X.w) X.A X.xe none (EP X pins σ Q) (.ref D) s3.heap.objs.size) s4 :=
    PpSet.compLoopS_any (fun n s' => ∃ i G, Inv (X.blk s3 H3 sc ce fp) [] (wipe σ (own.map (·.2))) G s' ∧ tn i s'.heap ∧ (∀ b ∈ fp, G b = none) ∧ W i n G) (by
      rintro n s5 ⟨i, H5, I5, at5, n5, w5⟩
      rcases turn i n H5 w5 with ⟨stop, fin⟩ | ⟨go, Nx, down, step⟩
      · refine thnF (T.done (X.blk s3 H3 sc ce fp) rfl rfl rfl calm i [] s5 _ H5 (fun _ _ => False) I5 (fps I5 n5) at5 stop) fun r s6 ⟨hr, I6⟩ => ?_
        subst hr
        have free : H5 s3.heap.objs.size = none := by rw [← cL]; exact I6.free
        obtain ⟨m, hn, _⟩ := I6.loc
        rw [show (X.blk s3 H3 sc ce fp).env.locals = s3.heap.objs.size from cL] at hn
        obtain ⟨k0, k1, k2, k3, k4, k5⟩ := I3.fpOk (Nat.le_refl _) free
        have I7 : Inv X pins σ H5 s6 := I3.call' (ch := fp) I6.os I6.base I6.hok I6.bare fun b hb =>
          let z := (f3 b hb).1.2
          ⟨z.2.2.1, z.1, z.2.2.2.1, z.2.2.2.2⟩
        exact ⟨m, hn, fun h'' sb => ⟨.ref D, H5, I7.turned (t' := s6.toks) (fun b o hb z => (sb.2 b hb).trans z) k0 k1 k3 k4 k5, rfl, fin⟩⟩
      · refine thnF (T.item (X.blk s3 H3 sc ce fp) rfl rfl rfl calm i [] s5 _ H5 (fun _ _ => False) I5 (fps I5 n5) at5 go) fun r s6 ⟨u, hr, h6⟩ => ?_
        subst hr
        refine thnF h6 fun _ s7 ⟨x, H7, I7, r7, y7, at7, n7⟩ => ?_
        refine thnF (pg1.run _ s7 _ H7 x u _ (I7.pinned (fps I7 n7) (T.obj _ _ at7)) r7 (step x H7 y7)) fun _ s8 ⟨σ8, H8, I8, hw8, q8⟩ => ?_
        refine thnF (pt1.run _ s8 σ8 H8 _ I8 q8) fun b s9 ⟨H9, I9, q9⟩ => ?_
        have out : ∀ {s' : Shared} {G : Hp}, Inv (X.blk s3 H3 sc ce fp) ([] ++ pinsAt fp s7.heap) σ8 G s' → Nx G → ∃ m, m < n ∧ ∃ i G, Inv (X.blk s3 H3 sc ce fp) [] (wipe σ (own.map (·.2))) G s' ∧ tn i s'.heap ∧ (∀ b ∈ fp, G b = none) ∧ W i m G := fun {s' G} J nx => by
          obtain ⟨m', hm, w'⟩ := down G nx
          have pin : ∀ b ∈ fp, ∀ o, s7.heap.get? b = some o → s'.heap.get? b = some o ∧ G b = none := fun b hb o z =>
            let y := J.pin (b, o) (List.mem_append_right _ (List.mem_append_right _ (mem_pinsAt hb z)))
            ⟨y.1, y.2.1⟩
          refine ⟨m', hm, i + 1, G, (J.unpinned (pins := [])).weak (by rw [← hw8, wipe_length]) (fun j v z => by rw [← hw8] at z; exact (wipe_some z).1), T.keep _ _ _ at7 fun b hb o z => (pin b hb o z).1, fun b hb => ?_, w'⟩
          obtain ⟨o, z, _⟩ := T.obj _ _ at7 b hb
          exact (pin b hb o z).2
        cases b with
        | false =>
          simp only [Bool.false_eq_true, if_false] at q9 ⊢
          exact out I9 q9
        | true =>
          simp only [if_true] at q9 ⊢
          refine thnF (pe1.run _ s9 σ8 H9 _ I9 q9) fun z s10 ⟨yv, H10, I10, r10, k, S0, n0, ey, hD10, room, nx⟩ => ?_
          subst ey
          exact thnF (mt_saddK (X := X.blk s3 H3 sc ce fp) _ s10 σ8 H10 (.ref D) [kV k] (.ref D) [z] (fun _ G => Nx G) I10 rfl (.cons r10 .nil) ⟨D, k, S0, n0, rfl, rfl, hD10, room, nx⟩) fun _ s11 ⟨_, H11, I11, _, q11⟩ => out I11 q11) m0 ⟨0, H3, I4, at4, off, w0⟩
  exact PpSet.codeAny_compStart_set run (T.self X.A 0 _ _ _ at4 run)
end
end DL

namespace DL
open PySem L2 PySem.Spec PyProof.Rows
def inK (ks : List Key) (k : Key) : Bool := ks.any fun z => decide (z = k)
theorem inK_iff {ks : List Key} {k : Key} : inK ks k = true ↔ k ∈ ks := by
  unfold inK
  rw [List.any_eq_true]
  exact ⟨fun ⟨z, hz, e⟩ => of_decide_eq_true e ▸ hz, fun h => ⟨k, h, decide_eq_true rfl⟩⟩
def keyU : Key → U
  | .inl i => .d (.int i)
  | .inr s => .d (.str s)
theorem keyU_v {w : Wd} {k : Key} {v : V} (r : RU w (keyU k) v) : v = kV k := by
  cases k with
  | inl i => cases (show Rp w.F (.int i) v from r); rfl
  | inr s => cases (show Rp w.F (.str s) v from r); rfl
/-- each key once -/
def uniq (ks : List Key) : List Key := ks.foldl (fun acc k => if inK acc k = true then acc else acc ++ [k]) []
theorem uniq_snoc (ks : List Key) (k : Key) : uniq (ks ++ [k]) = if inK (uniq ks) k = true then uniq ks else uniq ks ++ [k] := by unfold uniq; rw [List.foldl_append]; rfl
theorem uniq_mem (j : Key) (ks : List Key) : j ∈ uniq ks ↔ j ∈ ks := by
  have go : ∀ r : List Key, (j ∈ uniq r.reverse ↔ j ∈ r.reverse) := fun r => by
    induction r with
    | nil => exact Iff.rfl
    | cons k r ih =>
      rw [List.reverse_cons, uniq_snoc]
      by_cases h : k ∈ uniq r.reverse
      · rw [if_pos (inK_iff.mpr h), List.mem_append, ih]
        refine ⟨.inl, fun q => q.elim id fun q => ?_⟩
        rw [List.mem_singleton.mp q] at ih ⊢
        exact ih.mp h
      · rw [if_neg (fun q => h (inK_iff.mp q)), List.mem_append, List.mem_append, ih]
  have := go ks.reverse
  rwa [List.reverse_reverse] at this
theorem uniq_len (ks : List Key) : (uniq ks).length ≤ ks.length := by
  have go : ∀ r : List Key, (uniq r.reverse).length ≤ r.length := fun r => by
    induction r with
    | nil => exact Nat.le_refl _
    | cons k r ih =>
      rw [List.reverse_cons, uniq_snoc]
      by_cases h : k ∈ uniq r.reverse
      · rw [if_pos (inK_iff.mpr h), List.length_cons]; omega
      · rw [if_neg (fun q => h (inK_iff.mp q)), List.length_append, List.length_singleton, List.length_cons]; omega
  have := go ks.reverse
  rwa [List.reverse_reverse, List.length_reverse] at this
theorem uniq_nodup (ks : List Key) : (uniq ks).Nodup := by
  have go : ∀ r : List Key, (uniq r.reverse).Nodup := fun r => by
    induction r with
    | nil => exact List.nodup_nil
    | cons k r ih =>
      rw [List.reverse_cons, uniq_snoc]
      by_cases h : k ∈ uniq r.reverse
      · rw [if_pos (inK_iff.mpr h)]; exact ih
      · rw [if_neg (fun q => h (inK_iff.mp q))]
        exact List.nodup_append.mpr ⟨ih, by simp, fun x hx y hy e => h (by rw [← List.mem_singleton.mp hy, ← e]; exact hx)⟩
  have := go ks.reverse
  rwa [List.reverse_reverse] at this
/-- the code's own set beside the cells -/
structure PrvS (P : Program) (W : World) (w : Wd) (H : Hp) (D : Addr) (acc : List U) : Prop where
  at_ : ∃ ks : List Key, acc = ks.map keyU ∧ H D = some (SetK P W D (inK ks) (uniq ks).length)
  F : w.F D = none
  th : D ∉ w.th
theorem PrvS.step {P : Program} {W : World} {w w' : Wd} {H H' : Hp} {D : Addr} {acc : List U} (p : PrvS P W w H D acc) (s : Step w H w' H') : PrvS P W w' H' D acc := by
  obtain ⟨ks, h1, h2⟩ := p.at_
  refine ⟨⟨ks, h1, s.fr _ _ h2 p.th⟩, ?_, fun m => ?_⟩
  · cases e : w'.F D with
    | none => rfl
    | some o =>
      rcases s.own D o p.F e with q | q
      · rw [h2] at q; cases q
      · exact absurd q p.th
  · obtain ⟨t, e, ht⟩ := s.th
    rw [e] at m
    rcases List.mem_append.mp m with q | q
    · exact p.th q
    · have := ht D q
      rw [h2] at this; cases this
theorem PrvS.add {P : Program} {W : World} {w : Wd} {H : Hp} {D : Addr} {ks : List Key} (k : Key) (h1 : w.F D = none) (h2 : D ∉ w.th) :
    PrvS P W w (upd H D (SetK P W D (fun j => inK ks j || decide (j = k)) (if inK ks k = true then (uniq ks).length else (uniq ks).length + 1))) D ((ks ++ [k]).map keyU) := by
  refine ⟨⟨ks ++ [k], rfl, ?_⟩, h1, h2⟩
  rw [upd_same]
  have e1 : (fun j => inK ks j || decide (j = k)) = inK (ks ++ [k]) := funext fun j => by
    rw [Bool.eq_iff_iff, Bool.or_eq_true, inK_iff, inK_iff, decide_eq_true_eq, List.mem_append, List.mem_singleton]
  have e2 : (if inK ks k = true then (uniq ks).length else (uniq ks).length + 1) = (uniq (ks ++ [k])).length := by
    rw [uniq_snoc]
    by_cases h : k ∈ ks
    · rw [if_pos (inK_iff.mpr h), if_pos (inK_iff.mpr ((uniq_mem k ks).mpr h))]
    · rw [if_neg (fun q => h (inK_iff.mp q)), if_neg (fun q => h ((uniq_mem k ks).mp (inK_iff.mp q))), List.length_append, List.length_singleton]
  rw [e1, e2]
/-- one clause: the test, the key -/
def kKey (wt : WT) (we : WE) : WK := fun ρ M acc Q => wt ρ M fun b M2 => if b = true then we ρ M2 fun x M3 => acc.length + 1 < scanBound ∧ (∃ k, x = keyU k) ∧ Q (acc ++ [x]) M3 else Q acc M2
def LKS (P : Program) (W : World) (D : Addr) (f : L2.St → Hp → (Hp → Prop) → Prop) (k : WK) : Prop := ∀ ⦃w : Wd⦄ ⦃M : List Ob⦄ ⦃H : Hp⦄ ⦃σ : L2.St⦄ ⦃ρ : Rho⦄ ⦃acc : List U⦄ ⦃Qu : List U → List Ob → Prop⦄ ⦃N : Hp → Prop⦄, Hold w M H → Env w σ ρ → PrvS P W w H D acc → k ρ M acc Qu →
  (∀ (acc' : List U) (M' : List Ob) (w' : Wd) (H' : Hp), (∀ {w0 : Wd} {H0 : Hp}, H0 D = none → Step w0 H0 w H → Step w0 H0 w' H') → Grow w w' → Hold w' M' H' → PrvS P W w' H' D acc' → Qu acc' M' → N H') → f σ H N
theorem lks_key {P : Program} {W : World} {D : Addr} {tt : TT} {te : TE} {wt : WT} {we : WE} (ht : LT tt wt) (he : LE te we) : LKS P W D (fAddK P W D tt te) (kKey wt we) := fun w M H σ ρ acc Qu N h e p hq o =>
  ht h e hq fun b M2 c w2 H2 s2 h2 r2 q2 => by
    have r : b = c := r2
    subst r
    cases b with
    | false => exact o _ _ _ _ (fun _ s => s.trans h s2) s2.grow h2 (p.step s2) q2
    | true =>
      refine he h2 (e.grow s2.grow) q2 fun x M3 y w3 H3 s3 h3 r3 q3 => ?_
      have s23 := s2.trans h2 s3
      have p3 := p.step s23
      obtain ⟨hl, ⟨k, rfl⟩, q⟩ := q3
      obtain ⟨ks, rfl, hv⟩ := p3.at_
      have hu := uniq_len ks
      rw [List.length_map] at hl
      refine ⟨k, _, _, keyU_v r3, hv, by omega, ?_⟩
      exact o ((ks ++ [k]).map keyU) M3 w3 _ (fun hD s => (s.trans h s23).prv hD) s23.grow (h3.prv p3.F p3.th) (PrvS.add k p3.F p3.th) (by rw [List.map_append]; exact q)
theorem loopS_ok {P : Program} {W : World} {D : Addr} {J : It} {g : TG} {wg : WG} {f : L2.St → Hp → (Hp → Prop) → Prop} {k : WK} {vs : List Nat} {σ : L2.St} {ρ : Rho} {us acc : List U} {G : List Ob → Prop} {w1 : Wd} {M1 : List Ob} {H1 : Hp} {Qu : List U → List Ob → Prop} {Qd : Hp → Prop}
    (hg : LGv vs g wg) (hk : LKS P W D f k) (h1 : Hold w1 M1 H1) (e : Env w1 σ ρ) (p : PrvS P W w1 H1 D acc) (j : JOk w1 J us G) (q : wLcGo G wg k (wipeR ρ vs) us acc M1 Qu)
    (o : ∀ (acc' : List U) (M' : List Ob) (w' : Wd) (H' : Hp), (∀ {w0 : Wd} {H0 : Hp}, H0 D = none → Step w0 H0 w1 H1 → Step w0 H0 w' H') → Grow w1 w' → Hold w' M' H' → PrvS P W w' H' D acc' → Qu acc' M' → Qd H') :
    ∃ Wi : Nat → Nat → Hp → Prop, (∃ m, Wi 0 m H1) ∧ fLoop D J g σ vs f Qd Wi := by
  refine ⟨fun i m H' => m = us.length - i ∧ ∃ w' M' acc', (∀ {w0 : Wd} {H0 : Hp}, H0 D = none → Step w0 H0 w1 H1 → Step w0 H0 w' H') ∧ Grow w1 w' ∧ Hold w' M' H' ∧ PrvS P W w' H' D acc' ∧ wLcGo G wg k (wipeR ρ vs) (us.drop i) acc' M' Qu,
    ⟨us.length, by simp, w1, M1, acc, fun _ s => s, Grow.refl _, h1, p, q⟩, ?_⟩
  rintro i m H' ⟨hm, w', M', acc', s', g', h', p', q'⟩
  by_cases hi' : i < us.length
  · right
    have hG := wLcGo_G q'
    rw [List.drop_eq_getElem_cons hi'] at q'
    refine ⟨j.go i g' h' hG hi', fun H2 => ∃ w2 M2 acc2, (∀ {w0 : Wd} {H0 : Hp}, H0 D = none → Step w0 H0 w1 H1 → Step w0 H0 w2 H2) ∧ Grow w1 w2 ∧ Hold w2 M2 H2 ∧ PrvS P W w2 H2 D acc2 ∧ wLcGo G wg k (wipeR ρ vs) (us.drop (i + 1)) acc2 M2 Qu, ?_, fun v H2 y => ?_⟩
    · rintro H2 ⟨w2, M2, acc2, z⟩
      exact ⟨us.length - (i + 1), by omega, rfl, w2, M2, acc2, z⟩
    · obtain ⟨w2, s2, h2, r2⟩ := j.yld i g' h' hG (List.getElem?_eq_getElem hi') y
      have g2 := g'.trans s2.grow
      refine hg h2 ((e.wipe vs).grow g2) r2 q'.2 fun ρ3 M3 σ3 w3 H3 s3 h3 e3 z3 q3 => ?_
      have s23 := s2.trans h2 s3
      refine ⟨z3.trans ?_, hk h3 e3 (p'.step s23) q3 fun acc4 M4 w4 H4 s4 g4 h4 p4 q4 => ⟨w4, M4, acc4, fun hD s => s4 hD ((s' hD s).trans h' s23), (g2.trans s3.grow).trans g4, h4, p4, q4⟩⟩
      have ww : ∀ (vs us : List Nat) (τ : L2.St), (∀ i ∈ us, i ∈ vs) → wipe (wipe τ us) vs = wipe τ vs := by
        intro vs us
        induction us with
        | nil => intro τ _; rfl
        | cons u us ih =>
          intro τ hu
          show wipe ((wipe τ us).set u none) vs = wipe τ vs
          rw [wipe_set (hu u List.mem_cons_self), ih τ fun i hi => hu i (List.mem_cons_of_mem _ hi)]
      exact ww vs vs σ fun _ h => h
  · left
    rw [List.drop_of_length_le (by omega)] at q'
    exact ⟨j.stop i g' h' q'.1 (by omega), o _ _ _ _ s' g' h' p' q'.2⟩
/-- len of it -/
def rLenK (P : Program) (W : World) : List V → Hp → VK → Prop := fun xs H Q => ∃ a S n, xs = [.ref a] ∧ H a = some (SetK P W a S n) ∧ n < scanBound ∧ Q (.int (n : Nat)) H
theorem call_lenK {X : Cx} : CallR X (.builtin "len") (rLenK X.prog X.w) := by
  intro pins s σ H xs us Q I rv h
  obtain ⟨a, S, n, rfl, ha, hn, q⟩ := h
  cases rv with
  | cons r t =>
    cases t
    cases r
    obtain ⟨o, es, ep, tb, ho, hx, hd, _, _, _, hf, he⟩ := setK_get I ha
    exact call_len_set ho hx hd hf (by rw [he]; unfold scanBound at hn; omega) ⟨.int (n : Nat), H, I.tok _, ⟨_, by rw [he]⟩, q⟩
def wFewK (ww : WI) (wg : WG) (k : WK) (vs : List Nat) : WE := fun ρ M Q => ww ρ M fun us G M1 => wLcGo G wg k (wipeR ρ vs) us [] M1 fun acc M2 => ∃ ks, acc = ks.map keyU ∧ ks.length < scanBound ∧ Q (.d (.int ((uniq ks).length : Nat))) M2
theorem le_fewK {P : Program} {W : World} {wi : TI} {ww : WI} {g : TG} {wg : WG} {tt : TT} {wt : WT} {te : TE} {we : WE} {vs : List Nat} (hi : LI wi ww) (hg : LGv vs g wg) (ht : LT tt wt) (he : LE te we) :
    LE (tCB (rLenK P W) (tCons (tScK P W wi g tt te vs) tNil)) (wFewK ww wg (kKey wt we) vs) := fun w M H σ ρ Qu Q h e hq o =>
  hi h e hq fun us G M1 J w1 H1 s1 h1 j q D hD => by
    have hD0 : H D = none := s1.none_back h1 hD
    have F0 := h1.newF hD
    have t0 := h1.off hD
    have p0 : PrvS P W w1 (upd H1 D (SetK P W D (fun _ => false) 0)) D [] := ⟨⟨[], rfl, by rw [upd_same]; rfl⟩, F0, t0⟩
    refine loopS_ok hg (lks_key ht he) (h1.prv F0 t0) (e.grow s1.grow) p0 j q fun acc' M' w' H' s' g' h' p' q' => ?_
    obtain ⟨ks, rfl, hks, qq⟩ := q'
    obtain ⟨ks', e1, e2⟩ := p'.at_
    have inj : ks = ks' := by
      have : ∀ a b : List Key, a.map keyU = b.map keyU → a = b := fun a => by
        induction a with
        | nil => intro b hb; cases b with
          | nil => rfl
          | cons y b => cases hb
        | cons x a ih =>
          intro b hb
          cases b with
          | nil => cases hb
          | cons y b =>
            rw [List.map_cons, List.map_cons] at hb
            injection hb with z1 z2
            rw [ih b z2]
            congr 1
            cases x <;> cases y <;> cases z1 <;> rfl
      exact this _ _ e1
    subst inj
    have hu := uniq_len ks
    show rLenK P W [.ref D] H' Q
    refine ⟨D, _, _, rfl, e2, by omega, ?_⟩
    exact o _ _ _ _ _ (s' hD0 (s1.prv hD0)) h' (RU.D (.int _)) qq
end DL
namespace DL
open PySem L2 PySem.Spec PyProof.Rows
/-! ### l.count(x) of data -/
def rCntD (K : PySem.W.Frag) : V → List V → Hp → VK → Prop := fun x xs H Q => ∃ y d ds, xs = [y] ∧ Dp K H y d ∧ Dp K H x (.list ds) ∧ PyData.plainAll ds = true ∧ d.plain = true ∧ d.depth ≤ 60 ∧ Q (.int ((ds.countP fun z => PyData.eqv z d : Nat) : Int)) H
theorem mt_countD {X : Cx} (hu : X.A.units + 64 < cLine) : MtR X "list.count" (rCntD X.K) := by
  intro pins s σ H x xs v us Q I rx rxs h
  obtain ⟨y, d, ds, rfl, hy, hx, h1, h2, h3, q⟩ := h
  cases hx with
  | lst hs r =>
    cases rx
    obtain ⟨u, rfl, ru⟩ := rxs.one
    obtain ⟨as, ra⟩ := Dp.reads I d _ _ hy ru
    obtain ⟨its, rv, pl, _⟩ := I.list hs
    obtain ⟨bs, rb⟩ := Dp.readsAll I ds _ _ r rv
    exact SeqAt.count_list_data (vs := its.toArray) pl.isList (by simpa using rb) ra h1 h2 (by omega) ⟨.int _, H, I.tok _, ⟨_, rfl⟩, q⟩
def wCntD : WM := fun x ys M Q => ∃ u d ds, ys = [u] ∧ view M u = some d ∧ view M x = some (.list ds) ∧ PyData.plainAll ds = true ∧ d.plain = true ∧ d.depth ≤ 60 ∧ Q (.d (.int ((ds.countP fun z => PyData.eqv z d : Nat) : Int))) M
theorem lm_cntD {K : PySem.W.Frag} : LM (rCntD K) wCntD := fun w M H x vx ys vs Qu Q h rx rs hq o => by
  obtain ⟨u, d, ds, rfl, hu, hx, h1, h2, h3, q⟩ := hq
  obtain ⟨v, rfl, r⟩ := rus1 rs
  exact ⟨v, d, ds, rfl, Vw.dp h.sub (view_ok h r hu), Vw.dp h.sub (view_ok h rx hx), h1, h2, h3, o.here h (RU.D (.int _)) q⟩
theorem x_countD {X : Cx} {K : PySem.W.Frag} {k : Nat} (h : X.K = K) (hr : Room k X.A) : MtR X "list.count" (rCntD K) := h ▸ mt_countD (hu64 hr)
end DL

namespace DL
open PySem L2 PySem.Spec PyProof.Rows
/-! ### instances: cells with attributes -/
def lookF (fs : List (Str × U)) (f : Str) : Option U := (fs.find? fun p => decide (p.1 = f)).map (·.2)
def putFU (f : Str) (u : U) : List (Str × U) → List (Str × U)
  | [] => [(f, u)]
  | (g, x) :: r => if g = f then (g, u) :: r else (g, x) :: putFU f u r
abbrev FRel (w : Wd) : List (Str × U) → List (Str × V) → Prop := Paired fun p q => p.1 = q.1 ∧ RU w p.2 q.2
theorem lookF_cons (g f : Str) (x : U) (fs : List (Str × U)) : lookF ((g, x) :: fs) f = if g = f then some x else lookF fs f := by
  unfold lookF
  rw [List.find?_cons]
  by_cases h : g = f
  · rw [decide_eq_true h, if_pos h]; rfl
  · rw [decide_eq_false h, if_neg h]
theorem lookF_ok {w : Wd} {fs : List (Str × U)} {gs : List (Str × V)} (r : FRel w fs gs) {f : Str} : (∀ u, lookF fs f = some u → ∃ v, gs.lookup f = some v ∧ RU w u v) ∧ (lookF fs f = none → gs.lookup f = none) := by
  induction r with
  | nil => exact ⟨fun u h => (by cases h), fun _ => rfl⟩
  | @cons p q ps qs h t ih =>
    obtain ⟨g, x⟩ := p
    obtain ⟨g', v⟩ := q
    obtain ⟨e, ru⟩ := h
    have e' : g = g' := e
    subst e'
    rw [lookF_cons, List.lookup_cons]
    by_cases hg : g = f
    · subst hg
      rw [if_pos rfl, beq_self_eq_true]
      exact ⟨fun u hu => by cases hu; exact ⟨v, rfl, ru⟩, fun hu => (by cases hu)⟩
    · have e1 : (f == g) = false := by simpa using fun q => hg q.symm
      rw [if_neg hg, e1]
      exact ih
theorem putF_ok {w : Wd} {fs : List (Str × U)} {gs : List (Str × V)} (r : FRel w fs gs) {f : Str} {u : U} {v : V} (ru : RU w u v) : FRel w (putFU f u fs) (putF f v gs) := by
  induction r with
  | nil => exact .cons ⟨rfl, ru⟩ .nil
  | @cons p q ps qs h t ih =>
    obtain ⟨g, x⟩ := p
    obtain ⟨g', y⟩ := q
    obtain ⟨e, rx⟩ := h
    have e' : g = g' := e
    subst e'
    unfold putFU putF
    by_cases hg : g = f
    · rw [if_pos hg, if_pos hg]; exact .cons ⟨rfl, ru⟩ t
    · rw [if_neg hg, if_neg hg]; exact .cons ⟨rfl, rx⟩ ih
section
variable {K : PySem.W.Frag} {C : Addr} {te tv ta : TE} {we wv wa : WE} {tr : TA} {wr : WA}
/-- e.f -/
def wFld (C : Addr) (f : Str) (we : WE) : WE := fun ρ M Q => we ρ M fun x M1 => ∃ n fs u, x = .p n ∧ M1[n]? = some (.ins C fs) ∧ lookF fs f = some u ∧ Q u M1
theorem le_fld {f : Str} (c : Cls K C) (nf : NoAttr K C f) (he : LE te we) : LE (tFld K te f) (wFld C f we) := fun _ _ _ _ _ _ _ h e hq o =>
  he h e hq fun x M1 v w1 H1 s1 h1 r1 q1 => by
    obtain ⟨n, fs, u, rfl, hm, hf, q⟩ := q1
    obtain ⟨a, ob, rfl, ha, ho, dx, gs, rfl, r⟩ := cell_at h1 r1 hm (fun q => nomatch q)
    obtain ⟨v, hv, ru⟩ := (lookF_ok r).1 u hf
    exact ⟨a, C, dx, gs, v, rfl, ho, c, nf, hv, (o.trans s1 h1).here h1 ru q⟩
/-- e.f = v -/
def wSetF (C : Addr) (f : Str) (wa wv : WE) : WS := fun De ρ M => wv ρ M fun y M1 => wa ρ M1 fun x M2 => ∃ n fs, x = .p n ∧ M2[n]? = some (.ins C fs) ∧ fs.length < 1000 ∧ De.nx ρ (M2.set n (.ins C (putFU f y fs)))
theorem ls_setF {f : Str} (c : Cls K C) (nf : NoAttr K C f) (ha : LE ta wa) (hv : LE tv wv) : LS (sFld K ta tv f) (wSetF C f wa wv) := fun _ _ _ _ _ _ _ h e hq o =>
  hv h e hq fun y M1 v w1 H1 s1 h1 r1 q1 => ha h1 (e.grow s1.grow) q1 fun x M2 v2 w2 H2 s2 h2 r2 q2 => by
    obtain ⟨n, fs, rfl, hm, hl, q⟩ := q2
    obtain ⟨a, ob, rfl, haa, ho, dx, gs, rfl, r⟩ := cell_at h2 r2 hm (fun q => nomatch q)
    refine ⟨a, C, dx, gs, rfl, ho, c, nf, by rw [← Paired.length r]; exact hl, ?_⟩
    exact o.nx _ _ _ _ _ ((s1.trans h1 s2).trans h2 (Step.set haa)) (h2.set haa hm (fun q => nomatch q) (show RO _ (.ins C (putFU f y fs)) _ from ⟨dx, _, rfl, putF_ok r (r1.grow s2.grow)⟩)) ((e.grow s1.grow).grow s2.grow) q
/-- what a call with cells asks -/
def cC (is : List Nat) (d : DSp) (dv : List PyData) (us : List U) (M1 : List Ob) (Q : U → List Ob → Prop) : Prop := nodB is = true ∧ allB is M1.length = true ∧ (us.map (rnU (inN is))).map (rnU (outN is M1.length)) = us ∧
  (is.map fun i => rnO (inN is) (M1.getD i .dead)).map (rnO (outN is M1.length)) = (is.map fun i => M1.getD i .dead) ∧
  d (us.map (rnU (inN is)) ++ dv.map U.d) (is.map fun i => rnO (inN is) (M1.getD i .dead)) fun u Mc => Q (rnU (outN is M1.length) u) (wback M1 is (Mc.map (rnO (outN is M1.length))))
theorem cC_ok {is : List Nat} {d : DSp} {dvs : List V} {dv : List PyData} {E : XK} {w1 : Wd} {M1 : List Ob} {H1 : Hp} {us : List U} {vs : List V} {Qu : U → List Ob → Prop} {Q : VK} (hd : ∀ w : Wd, RUs w (dv.map U.d) dvs) (h1 : Hold w1 M1 H1) (r1 : RUs w1 us vs) (q1 : cC is d dv us M1 Qu) (o : Out RU w1 H1 Qu Q) : liftSp d (vs ++ dvs) H1 Q E := by
  obtain ⟨nd', hi', hu, hc, q⟩ := q1
  have nd := nodB_ok nd'
  have hi := allB_ok hi'
  have hl : ∀ i ∈ is, i < w1.th.length := fun i m => by rw [h1.len]; exact hi i m
  refine ⟨_, _, _, _, call_into h1 nd hi hc, ?_, q, fun u Mc v w2 H2 s2 h2 r2 q2 => ?_⟩
  · refine rus_app ?_ (hd _)
    rw [← hu] at r1
    exact mapP2 r1 fun a c r => by
      rw [← h1.len] at r
      exact RU.into hl r
  · obtain ⟨t, ew, h3, s3⟩ := call_back h1 nd hi s2 h2
    refine o _ _ _ _ _ s3 h3 ?_ q2
    rw [ew] at r2
    rw [← h1.len]
    exact RU.back hl r2
/-- o.m(..) -/
def wMeth (C : Addr) (m : Str) (is : List Nat) (d : DSp) (dv : List PyData) (we : WE) (wr : WA) : WE := fun ρ M Q => we ρ M fun x M1 => ∃ n fs, x = .p n ∧ M1[n]? = some (.ins C fs) ∧ lookF fs m = none ∧ wr ρ M1 fun us M2 => cC is d dv (x :: us) M2 Q
theorem le_meth {m : Str} {is : List Nat} {d : DSp} {dvs : List V} {dv : List PyData} {E : XK} (hd : ∀ w : Wd, RUs w (dv.map U.d) dvs) (he : LE te we) (hr : LA tr wr) : LE (tMeth C m (liftSp d) dvs E te tr) (wMeth C m is d dv we wr) := fun _ _ _ _ _ _ _ h e hq o =>
  he h e hq fun x M1 v w1 H1 s1 h1 r1 q1 => by
    obtain ⟨n, fs, rfl, hm, hf, q⟩ := q1
    obtain ⟨a, ob, rfl, ha, ho, dx, gs, rfl, r⟩ := cell_at h1 r1 hm (fun q => nomatch q)
    refine ⟨a, dx, gs, rfl, ho, (lookF_ok r).2 hf, hr h1 (e.grow s1.grow) q fun us M2 vs w2 H2 s2 h2 r2 q2 => ?_⟩
    exact cC_ok (us := .p n :: us) (vs := .ref a :: vs) hd h2 (.cons (r1.grow s2.grow) r2) q2 ((o.trans s1 h1).trans s2 h2)
/-- C(..): a new instance -/
def wMake (C : Addr) (d : DSp) (dv : List PyData) (wr : WA) : WE := fun ρ M Q => wr ρ M fun us M1 => cC [M1.length] d dv (.p M1.length :: us) (M1 ++ [.ins C []]) fun u M2 => u = .d .none ∧ Q (.p M1.length) M2
theorem le_make {d : DSp} {dvs : List V} {dv : List PyData} {E : XK} (hd : ∀ w : Wd, RUs w (dv.map U.d) dvs) (hr : LA tr wr) : LE (tMake C (liftSp d) dvs E tr) (wMake C d dv wr) := fun _ _ _ _ _ _ _ h e hq o =>
  hr h e hq fun us M1 vs w1 H1 s1 h1 r1 q1 x dx hx hdx hne => by
    have hd' := h1.put hdx (o := .own x)
    have sd : Step w1 H1 (w1.put dx (.own x)) (upd H1 dx (.own x)) := Step.put h1 hdx
    have hx' : (upd H1 dx (.own x)) x = none := by rw [upd_ne hne.symm]; exact hx
    have hc := hd'.cell' hx' (m := .ins C []) (o := .ins C dx []) ⟨dx, [], rfl, .nil⟩
    have sc : Step (w1.put dx (.own x)) (upd H1 dx (.own x)) ((w1.put dx (.own x)).cell x) (upd (upd H1 dx (.own x)) x (.ins C dx [])) := Step.cell hd' hx'
    have s12 := sd.trans hd' sc
    have rx : RU ((w1.put dx (.own x)).cell x) (.p M1.length) (.ref x) := RU.P (Wd.cell_at hd')
    refine cC_ok (us := .p M1.length :: us) (vs := .ref x :: vs) hd hc (.cons rx (RUs.grow s12.grow r1)) q1 fun u M2 v w2 H2 s2 h2 r2 q2 => ?_
    obtain ⟨rfl, q⟩ := q2
    refine ⟨by cases (show Rp w2.F .none v from r2); rfl, ?_⟩
    exact (o.trans s1 h1) _ _ _ _ _ (s12.trans hc s2) h2 (rx.grow s2.grow) q
end
/-! ### a local that holds a def -/
def lookA (tbl : List (Addr × DSp)) (f : Addr) : Option DSp := (tbl.find? fun p => decide (p.1 = f)).map (·.2)
def tblS (tbl : List (Addr × DSp)) : Addr → Option Sp := fun f => (lookA tbl f).map liftSp
def wCallA (i : Nat) (tbl : List (Addr × DSp)) (wr : WA) : WE := fun ρ M Q => ∃ f d, ρ[i]? = some (some (.v (.ref f))) ∧ lookA tbl f = some d ∧ wr ρ M fun us M1 => ∃ ds, dats us = some ds ∧ d (ds.map U.d) [] fun u Mc => ∃ z, u = .d z ∧ Q (.d z) M1
theorem le_callA {i : Nat} {tbl : List (Addr × DSp)} {tr : TA} {wr : WA} (hr : LA tr wr) : LE (tCallA i (tblS tbl) tr) (wCallA i tbl wr) := fun w M H σ ρ Qu Q h e hq o => by
  obtain ⟨f, d, hf, hd, q⟩ := hq
  obtain ⟨v, hv, rv⟩ := e.at_ i _ hf
  have rv' : v = .ref f := rv
  subst rv'
  refine ⟨f, liftSp d, hv, by unfold tblS; rw [hd]; rfl, hr h e q fun us M1 vs w1 H1 s1 h1 r1 q1 => ?_⟩
  obtain ⟨ds, e1, q2⟩ := q1
  refine ⟨⟨w1.F, []⟩, [], _, _, pure_call h1, ?_, q2, fun u Mc v w2 H2 s2 h2 r2 q3 => ?_⟩
  · exact RUs.of (w := ⟨w1.F, []⟩) (show RpL w1.F ds vs from dats_ok r1 e1)
  · obtain ⟨z, rfl, q3⟩ := q3
    obtain ⟨h3, s3⟩ := pure_back h1 s2 h2
    exact (o.trans s1 h1) _ _ _ _ _ s3 h3 (RU.D (show Rp w2.F z v from r2)) q3
theorem tblS_nil {X : Cx} {k : Nat} : ∀ f sp, tblS [] f = some sp → Held X.prog X.w X.K X.mg X.base k f sp := fun f sp h => by cases h
theorem tblS_cons {X : Cx} {k : Nat} {f0 : Addr} {d0 : DSp} {tbl : List (Addr × DSp)} (h0 : Held X.prog X.w X.K X.mg X.base k f0 (liftSp d0)) (ht : ∀ f sp, tblS tbl f = some sp → Held X.prog X.w X.K X.mg X.base k f sp) : ∀ f sp, tblS ((f0, d0) :: tbl) f = some sp → Held X.prog X.w X.K X.mg X.base k f sp := fun f sp h => by
  unfold tblS lookA at h
  rw [List.find?_cons] at h
  by_cases hf : f0 = f
  · subst hf
    rw [decide_eq_true rfl] at h
    cases h
    exact h0
  · rw [decide_eq_false hf] at h
    exact ht f sp h
/-- a def out of a written dict of defs -/
abbrev WrDf : PySem.W.Frag → World → Addr → List (Str × Addr) → Prop := WrDg V.ref
def wGetF (a : Addr) (kvs : List (Str × Addr)) : R2' := fun x y M Q => x = .v (.ref a) ∧ ∃ z f, view M y = some (.str z) ∧ kvs.lookup z = some f ∧ Q (.v (.ref f)) M
theorem lr_getKf {K : PySem.W.Frag} {w : World} {a : Addr} {kvs : List (Str × Addr)} (D : WrDf K w a kvs) : LR (rIxD K w) (wGetF a kvs) := fun w M H x y vx vy Qu Q hh rx ry hq o => by
  obtain ⟨rfl, z, f, ez, hi, q⟩ := hq
  have ex : vx = .ref a := rx
  subst ex
  have ey := vw_str (view_ok hh ry ez)
  subst ey
  obtain ⟨r, h1, h2, h3⟩ := wrD_at D z
  obtain ⟨u, rfl, ru⟩ := h3 f hi
  obtain ⟨es, n, D, _⟩ := D
  exact ⟨a, z, .ref f, rfl, rfl, ⟨es, n, u, D.at_, D.lit, h1, ru⟩, o.here hh (RU.V') q⟩
/-! ### del d[k] -/
def dropD (kvs : List (Key × PyData)) (k : Key) : List (Key × PyData) := kvs.filter fun kv => decide (kv.1 ≠ k)
theorem dropD_ok {F : Hp} {kvs : List (Key × PyData)} {ks : List (Key × V)} (r : KRel F kvs ks) (k : Key) : KRel F (dropD kvs k) (dropK ks k) := by
  induction r with
  | nil => exact .nil
  | @cons p q ps qs h t ih =>
    obtain ⟨kp, x⟩ := p
    obtain ⟨kq, y⟩ := q
    obtain ⟨e, rx⟩ := h
    have e' : kp = kq := e
    subst e'
    unfold dropD dropK at ih ⊢
    rw [List.filter_cons, List.filter_cons]
    by_cases hk : kp = k
    · rw [if_neg (by simpa using hk), if_neg (by simpa using hk)]; exact ih
    · rw [if_pos (by simpa using hk), if_pos (by simpa using hk)]; exact .cons ⟨rfl, rx⟩ ih
def wDDel (we wy : WE) : WS := fun De ρ M => we ρ M fun x M1 => wy ρ M1 fun y M2 => ∃ n kvs e k, x = .p n ∧ M2[n]? = some (.dic kvs) ∧ view M2 y = some e ∧ keyD e = some k ∧ (valD kvs k).isSome = true ∧ De.nx ρ (M2.set n (.dic (dropD kvs k)))
theorem ls_ddel {te ty : TE} {we wy : WE} (he : LE te we) (hy : LE ty wy) : LS (sDDel te ty) (wDDel we wy) := fun _ _ _ _ _ _ _ h e hq o =>
  he h e hq fun x M1 v w1 H1 s1 h1 r1 q1 => hy h1 (e.grow s1.grow) q1 fun y M2 v2 w2 H2 s2 h2 r2 q2 => by
    obtain ⟨n, kvs, ey, k, rfl, hm, hv, hk, hs, q⟩ := q2
    obtain ⟨a, ob, rfl, ha, ho, ks, rfl, r⟩ := cell_at h2 (r1.grow s2.grow) hm (fun q => nomatch q)
    have ek := keyD_ok (view_ok h2 r2 hv) hk
    subst ek
    refine ⟨a, ks, k, rfl, ho, rfl, by rw [isSome_rel r k]; exact hs, ?_⟩
    exact o.nx _ _ _ _ _ ((s1.trans h1 s2).trans h2 (Step.set ha)) (h2.set ha hm (fun q => nomatch q) (RO.Dic (dropD_ok r k))) ((e.grow s1.grow).grow s2.grow) q
/-! ### xs * n: a new cell -/
def wMulC : R2' := fun x y M Q => ∃ ds j, view M x = some (.list ds) ∧ view M y = some (.int j) ∧ -(2 ^ 63) ≤ j ∧ j < 2 ^ 63 ∧ ds.length * j.toNat ≤ sizeLine ∧ Q (.p M.length) (M ++ [.lst (List.replicate j.toNat ds).flatten])
theorem lr_mulC : LR rMulAll wMulC := fun w M H x y vx vy Qu Q h rx ry hq o => by
  obtain ⟨ds, j, ex, ey, h1, h2, h3, q⟩ := hq
  obtain ⟨p, vs, rfl, hp, r1⟩ := view_ok h rx ex
  have ey' := vw_int (view_ok h ry ey)
  refine .inr ⟨p, j, vs, rfl, ey', hp, h1, h2, by rw [← r1.length]; exact h3, fun l hl => ?_⟩
  exact o _ _ _ _ _ (Step.cell h hl) (h.cell' hl (RO.L (r1.flatRep _))) (RU.P (Wd.cell_at h)) q
/-! ### & | ^ -/
abbrev wAndI : R2' := wF2 (fII (fun i j => .int (Builtin.bitAnd i j)) fun _ _ => True)
abbrev wOrI : R2' := wF2 (fII (fun i j => .int (Builtin.bitOr i j)) fun _ _ => True)
abbrev wXorI : R2' := wF2 (fII (fun i j => .int (Builtin.bitXor i j)) fun _ _ => True)
theorem lr_andI : LR (rI0 fun i j => .int (Builtin.bitAnd i j)) wAndI := lr_I0 fun _ i j => .int _
theorem lr_orI : LR (rI0 fun i j => .int (Builtin.bitOr i j)) wOrI := lr_I0 fun _ i j => .int _
theorem lr_xorI : LR (rI0 fun i j => .int (Builtin.bitXor i j)) wXorI := lr_I0 fun _ i j => .int _
/-! ### a dict is locked while it is walked -/
def flatKv (kvs : List (Key × PyData)) : Bool := kvs.all fun p => flatD p.2
def vOf : PyData → V
  | .bool b => .bl b
  | .int i => .int i
  | .str x => .str x
  | _ => .non
theorem flat_v {F : Hp} {d : PyData} {v : V} (r : Rp F d v) (h : flatD d = true) : v = vOf d := by cases r <;> first | rfl | cases h
theorem flat_ks {F : Hp} {kvs : List (Key × PyData)} {ks : List (Key × V)} (r : KRel F kvs ks) (h : flatKv kvs = true) : ks = kvs.map fun p => (p.1, vOf p.2) := by
  induction r with
  | nil => rfl
  | @cons p q ps qs h1 t ih =>
    obtain ⟨kq, y⟩ := q
    obtain ⟨e, rx⟩ := h1
    have h' : flatD p.2 = true ∧ flatKv ps = true := by simpa [flatKv] using h
    have e' : p.1 = kq := e
    have ey : y = vOf p.2 := flat_v rx h'.1
    rw [List.map_cons, ih h'.2, e', ey]
def wLockE (we : WE) : WE := fun ρ M Q => ∃ n kvs, M[n]? = some (.dic kvs) ∧ flatKv kvs = true ∧ ∀ od, we ρ (M.set n (.lkd kvs od)) fun x M' => M'[n]? = some (.lkd kvs od) ∧ Q x (M'.set n (.dic kvs))
theorem Step.unset {w w' : Wd} {H H' : Hp} {a : Addr} {o o' : HO} {n : Nat} (ha : w.th[n]? = some a) {M1 : List Ob} (h1 : Hold w M1 (upd H a o)) (s : Step w (upd H a o) w' H') (hl : ∃ o, H a = some o) : Step w H w' (upd H' a o') := by
  have hm : a ∈ w.th := List.mem_of_getElem? ha
  refine ⟨s.F, ?_, fun b u e n => ?_, fun b u e1 e2 => ?_⟩
  · obtain ⟨t, e, ht⟩ := s.th
    refine ⟨t, e, fun b hb => ?_⟩
    have := ht b hb
    by_cases hb2 : b = a
    · subst hb2; rw [upd_same] at this; cases this
    · rw [upd_ne hb2] at this; exact this
  · have hb : b ≠ a := fun q => n (q ▸ hm)
    rw [upd_ne hb]
    exact s.fr b u (by rw [upd_ne hb]; exact e) n
  · rcases s.own b u e1 e2 with q | q
    · by_cases hb : b = a
      · subst hb; exact .inr hm
      · rw [upd_ne hb] at q; exact .inl q
    · exact .inr q
theorem le_lockE {te : TE} {we : WE} (he : LE te we) : LE (tLockE te) (wLockE we) := fun w M H σ ρ Qu Q h e hq o => by
  obtain ⟨n, kvs, hm, hf, q⟩ := hq
  have hn : n < w.th.length := by rw [h.len]; exact (List.getElem?_eq_some_iff.mp hm).1
  obtain ⟨a, ob, _, ha, ho, ks, rfl, r⟩ := cell_at h (RU.P (List.getElem?_eq_getElem hn)) hm (fun q => nomatch q)
  have eks := flat_ks r hf
  refine ⟨a, .dK ks, ho, trivial, fun od => ?_⟩
  have h1 := h.set ha hm (fun q => nomatch q) (m := .lkd kvs od) (o := .frz od (.dK ks)) ⟨ks, rfl, r⟩
  refine he h1 e (q od) fun x M' v w' H' s' h' r' q' => ?_
  have ha' : w'.th[n]? = some a := s'.grow.th n a ha
  obtain ⟨ob, e3, e4⟩ := h'.cell n a _ ha' q'.1
  rcases e4 with e4 | ⟨_, ks', rfl, r2⟩
  · cases e4
  · have e5 := flat_ks r2 hf
    rw [← eks] at e5
    subst e5
    refine ⟨e3, ?_⟩
    exact o _ _ _ _ _ (Step.unset ha h1 s' ⟨_, ho⟩) (h'.set ha' q'.1 (fun q => nomatch q) (RO.Dic r2)) r' q'.2
/-- the keys of a locked dict -/
def wIKeys (we : WE) : WI := fun ρ M Q => we ρ M fun x M1 => ∃ n kvs od, x = .p n ∧ M1[n]? = some (.lkd kvs od) ∧ flatKv kvs = true ∧ Q (kvs.map fun p => keyU p.1) (fun M' => M'[n]? = some (.lkd kvs od)) M1
theorem lkd_at {w : Wd} {M : List Ob} {H : Hp} (h : Hold w M H) {n : Nat} {a : Addr} {kvs : List (Key × PyData)} {od : Obj} (ha : w.th[n]? = some a) (hm : M[n]? = some (.lkd kvs od)) : ∃ ks, H a = some (.frz od (.dK ks)) ∧ KRel w.F kvs ks := by
  obtain ⟨ob, e3, e4⟩ := h.cell n a _ ha hm
  rcases e4 with e4 | ⟨_, ks', rfl, r2⟩
  · cases e4
  · exact ⟨ks', e3, r2⟩
theorem krel_get {F : Hp} : ∀ {kvs : List (Key × PyData)} {ks : List (Key × V)}, KRel F kvs ks → ∀ {i : Nat}, (∀ p, kvs[i]? = some p → ∃ v, ks[i]? = some (p.1, v) ∧ Rp F p.2 v)
  | _, _, .nil, i, p, h => by simp at h
  | (k, d) :: _, (k', v) :: _, .cons h t, 0, p, hp => by
    simp at hp; subst hp
    have e : k = k' := h.1
    subst e
    exact ⟨v, rfl, h.2⟩
  | _ :: _, _ :: _, .cons h t, i + 1, p, hp => by simpa using krel_get t (i := i) p (by simpa using hp)
theorem keyU_rel {w : Wd} (k : Key) : RU w (keyU k) (kV k) := by cases k <;> first | exact RU.D (.int _) | exact RU.D (.str _)
theorem j_keys {w : Wd} {n : Nat} {a : Addr} {kvs : List (Key × PyData)} {ks : List (Key × V)} {od : Obj} (ha : w.th[n]? = some a) (hf : flatKv kvs = true) (eks : ks = kvs.map fun p => (p.1, vOf p.2)) : JOk w (Itk a od ks) (kvs.map fun p => keyU p.1) fun M' => M'[n]? = some (.lkd kvs od) where
  stop := fun {w' M H} i g h hm hi => by
    obtain ⟨ks', h1, r⟩ := lkd_at h (g.th _ _ ha) hm
    have e := flat_ks r hf
    rw [← eks] at e; subst e
    exact ⟨h1, by rw [eks]; simpa using hi⟩
  go := fun {w' M H} i g h hm hi => by
    obtain ⟨ks', h1, r⟩ := lkd_at h (g.th _ _ ha) hm
    have e := flat_ks r hf
    rw [← eks] at e; subst e
    exact ⟨h1, by rw [eks]; simpa using hi⟩
  yld := fun {w' M H H' v u} i g h hm hu y => by
    obtain ⟨rfl, k, z, hk, rfl⟩ := y
    rw [List.getElem?_map] at hu
    cases e : kvs[i]? with
    | none => rw [e] at hu; cases hu
    | some p =>
      rw [e] at hu
      have hu' : keyU p.1 = u := Option.some.inj hu
      rw [eks, List.getElem?_map, e] at hk
      have hk' := Option.some.inj hk
      have e1 : p.1 = k := congrArg Prod.fst hk'
      subst hu'; subst e1
      exact ⟨w', Step.refl _ _, h, keyU_rel _⟩
theorem li_keys {te : TE} {we : WE} (he : LE te we) : LI (iKeys te) (wIKeys we) := fun _ _ _ _ _ _ _ h e hq k =>
  he h e hq fun x M1 v w1 H1 s1 h1 r1 q1 => by
    obtain ⟨n, kvs, od, rfl, hm, hf, q⟩ := q1
    obtain ⟨a, ha, rfl⟩ := r1
    obtain ⟨ks, ho, r⟩ := lkd_at h1 ha hm
    exact ⟨a, od, rfl, .inl ⟨ks, ho, k _ _ _ _ _ _ s1 h1 (j_keys ha hf (flat_ks r hf)) q⟩⟩
/-- the items of a locked dict -/
def kD : Key → PyData
  | .inl i => .int i
  | .inr s => .str s
theorem kD_rp {F : Hp} (k : Key) : Rp F (kD k) (kV k) := by cases k <;> first | exact .int _ | exact .str _
def itemsU (kvs : List (Key × PyData)) : List U := kvs.map fun p => .d (.tuple [kD p.1, p.2])
def wIItems (we : WE) : WI := fun ρ M Q => we ρ M fun x M1 => ∃ n kvs od, x = .p n ∧ M1[n]? = some (.lkd kvs od) ∧ flatKv kvs = true ∧ Q (itemsU kvs) (fun M' => M'[n]? = some (.lkd kvs od)) M1
theorem j_items {w : Wd} {n : Nat} {a : Addr} {kvs : List (Key × PyData)} {ks : List (Key × V)} {od : Obj} (ha : w.th[n]? = some a) (hf : flatKv kvs = true) (eks : ks = kvs.map fun p => (p.1, vOf p.2)) : JOk w (Iti a od ks) (itemsU kvs) fun M' => M'[n]? = some (.lkd kvs od) where
  stop := fun {w' M H} i g h hm hi => by
    obtain ⟨ks', h1, r⟩ := lkd_at h (g.th _ _ ha) hm
    have e := flat_ks r hf
    rw [← eks] at e; subst e
    exact ⟨h1, by rw [eks]; simpa [itemsU] using hi⟩
  go := fun {w' M H} i g h hm hi => by
    obtain ⟨ks', h1, r⟩ := lkd_at h (g.th _ _ ha) hm
    have e := flat_ks r hf
    rw [← eks] at e; subst e
    exact ⟨h1, by rw [eks]; simpa [itemsU] using hi⟩
  yld := fun {w' M H H' v u} i g h hm hu y => by
    obtain ⟨T, k, z, hk, rfl, hT, rfl⟩ := y
    obtain ⟨ks', h1, r⟩ := lkd_at h (g.th _ _ ha) hm
    have e0 := flat_ks r hf
    rw [← eks] at e0; subst e0
    unfold itemsU at hu
    rw [List.getElem?_map] at hu
    cases e : kvs[i]? with
    | none => rw [e] at hu; cases hu
    | some p =>
      rw [e] at hu
      have hu' : U.d (.tuple [kD p.1, p.2]) = u := Option.some.inj hu
      obtain ⟨v2, hv2, rv2⟩ := krel_get r p e
      rw [hv2] at hk
      have hk' := Option.some.inj hk
      have e1 : p.1 = k := congrArg Prod.fst hk'
      have e2 : v2 = z := congrArg Prod.snd hk'
      subst hu'; subst e1; subst e2
      have m := same_put (o := .tup [kV p.1, v2]) (h.newF hT)
      exact ⟨w'.put T _, Step.put h hT, h.put hT, RU.D (.tup Wd.putF (.cons (kD_rp _) (.cons (rv2.mono m) .nil)))⟩
theorem li_items {te : TE} {we : WE} (he : LE te we) : LI (iItems te) (wIItems we) := fun _ _ _ _ _ _ _ h e hq k =>
  he h e hq fun x M1 v w1 H1 s1 h1 r1 q1 => by
    obtain ⟨n, kvs, od, rfl, hm, hf, q⟩ := q1
    obtain ⟨a, ha, rfl⟩ := r1
    obtain ⟨ks, ho, r⟩ := lkd_at h1 ha hm
    exact ⟨a, od, ks, rfl, ho, k _ _ _ _ _ _ s1 h1 (j_items ha hf (flat_ks r hf)) q⟩
/-- d[y] of a locked dict -/
def wDGetL (we wy : WE) : WE := fun ρ M Q => we ρ M fun x M1 => wy ρ M1 fun y M2 => ∃ n kvs od e k d, x = .p n ∧ M2[n]? = some (.lkd kvs od) ∧ view M2 y = some e ∧ keyD e = some k ∧ valD kvs k = some d ∧ Q (.d d) M2
theorem le_dgetL {te ty : TE} {we wy : WE} (he : LE te we) (hy : LE ty wy) : LE (tDGet te ty) (wDGetL we wy) := fun _ _ _ _ _ _ _ h e hq o =>
  he h e hq fun x M1 v w1 H1 s1 h1 r1 q1 => hy h1 (e.grow s1.grow) q1 fun y M2 v2 w2 H2 s2 h2 r2 q2 => by
    obtain ⟨n, kvs, od, ey, k, d, rfl, hm, hv, hk, hd, q⟩ := q2
    obtain ⟨a, ha, rfl⟩ := r1.grow s2.grow
    obtain ⟨ks, ho, r⟩ := lkd_at h2 ha hm
    have ek := keyD_ok (view_ok h2 r2 hv) hk
    subst ek
    rcases valD_ok r k with ⟨z, _⟩ | ⟨d', v', z1, z2, z3⟩
    · rw [hd] at z; cases z
    · rw [hd] at z1; cases z1
      refine ⟨a, v', rfl, ?_, ((o.trans s1 h1).trans s2 h2).here h2 (RU.D z3) q⟩
      exact .inl ⟨ks, k, .inr ⟨od, ho⟩, rfl, z2.symm⟩
/-! ### dict(pairs) -/
def pairsD (ps : List (Key × PyData)) : List PyData := ps.map fun p => .tuple [kD p.1, p.2]
def rDictP (K : PySem.W.Frag) : List V → Hp → VK → Prop := fun xs H Q => ∃ (a : Addr) (ps : List Addr) (kvs : List (Key × V)), xs = [.ref a] ∧ SqL K H a (ps.map V.ref) ∧ Paired (fun p kv => SqT K H p [kV kv.1, kv.2]) ps kvs ∧ ∀ p, H p = none → Q (.ref p) (upd H p (.dK (mergeK [] kvs)))
def wDictP : List U → List Ob → (U → List Ob → Prop) → Prop := fun us M Q => ∃ u ps, us = [u] ∧ view M u = some (.list (pairsD ps)) ∧ Q (.p M.length) (M ++ [.dic (mergeD [] ps)])
theorem pairs_rep {K : PySem.W.Frag} {F H : Hp} (e : Same F H) : ∀ {ps : List (Key × PyData)} {vs : List V}, RpL F (pairsD ps) vs → ∃ (as : List Addr) (kvs : List (Key × V)), vs = as.map V.ref ∧ Paired (fun p kv => SqT K H p [kV kv.1, kv.2]) as kvs ∧ KRel F ps kvs
  | [], _, .nil => ⟨[], [], rfl, .nil, .nil⟩
  | (k, d) :: ps, _, .cons h t => by
    obtain ⟨as, kvs, rfl, h1, h2⟩ := pairs_rep (K := K) e t
    cases h with
    | tup ha r =>
      cases r with
      | cons r1 r2 =>
        cases r2 with
        | cons r2 r3 =>
          cases r3
          have ek : ∀ {v : V}, Rp F (kD k) v → v = kV k := fun {v} r => by cases k <;> cases r <;> rfl
          have := ek r1
          subst this
          exact ⟨_ :: as, (k, _) :: kvs, rfl, .cons (SqT.of (e _ _ ha)) h1, .cons ⟨rfl, r2⟩ h2⟩
theorem lc_dictP {K : PySem.W.Frag} : LC (rDictP K) wDictP := fun w M H x vx Qu Q h rx hq o => by
  obtain ⟨u, ps, rfl, hv, q⟩ := hq
  obtain ⟨v, rfl, r⟩ := rus1 rx
  obtain ⟨p, vs, rfl, hp, r1⟩ := view_ok h r hv
  obtain ⟨as, kvs, rfl, h1, h2⟩ := pairs_rep (K := K) h.sub r1
  refine ⟨p, as, kvs, rfl, SqL.of hp, h1, fun l hl => ?_⟩
  exact o _ _ _ _ _ (Step.cell h hl) (h.cell' hl (RO.Dic (mergeD_ok h2 .nil))) (RU.P (Wd.cell_at h)) q
theorem x_dictP {X : Cx} {K : PySem.W.Frag} (h : X.K = K) (hc : X.calm = true) : CallR X (.type "dict") (rDictP K) := h ▸ call_dictP hc
/-! ### {k: v for ..} -/
def fPut (D : Addr) (tt : TT) (tk tv : TE) : L2.St → Hp → (Hp → Prop) → Prop := fun σ2 H2 N => tt σ2 H2 fun b H3 => if b = true then tk σ2 H3 fun y H4 => tv σ2 H4 fun z H5 => ∃ kvs k, y = kV k ∧ H5 D = some (.dK kvs) ∧ kvs.length < sizeLine ∧ N (upd H5 D (.dK (putK kvs k z))) else N H3
structure PrvD (w : Wd) (H : Hp) (D : Addr) (acc : List U) : Prop where
  at_ : ∃ (ps : List (Key × PyData)) (ks : List (Key × V)), acc = itemsU ps ∧ H D = some (.dK ks) ∧ KRel w.F (mergeD [] ps) ks
  F : w.F D = none
  th : D ∉ w.th
theorem KRel.grow {F F' : Hp} (e : Same F F') {kvs : List (Key × PyData)} {ks : List (Key × V)} (r : KRel F kvs ks) : KRel F' kvs ks := L2.Paired.mapP r fun _ _ q => ⟨q.1, q.2.mono e⟩
theorem PrvD.step {w w' : Wd} {H H' : Hp} {D : Addr} {acc : List U} (p : PrvD w H D acc) (s : Step w H w' H') : PrvD w' H' D acc := by
  obtain ⟨ps, ks, h1, h2, h3⟩ := p.at_
  refine ⟨⟨ps, ks, h1, s.fr _ _ h2 p.th, KRel.grow s.F h3⟩, ?_, fun m => ?_⟩
  · cases e : w'.F D with
    | none => rfl
    | some o =>
      rcases s.own D o p.F e with q | q
      · rw [h2] at q; cases q
      · exact absurd q p.th
  · obtain ⟨t, e, ht⟩ := s.th
    rw [e] at m
    rcases List.mem_append.mp m with q | q
    · exact p.th q
    · have := ht D q
      rw [h2] at this; cases this
def kPut (wt : WT) (wk wv : WE) : WK := fun ρ M acc Q => wt ρ M fun b M2 => if b = true then wk ρ M2 fun x M3 => wv ρ M3 fun y M4 => ∃ k d, x = keyU k ∧ y = .d d ∧ acc.length < sizeLine ∧ Q (acc ++ [.d (.tuple [kD k, d])]) M4 else Q acc M2
def LKD (D : Addr) (f : L2.St → Hp → (Hp → Prop) → Prop) (k : WK) : Prop := ∀ ⦃w : Wd⦄ ⦃M : List Ob⦄ ⦃H : Hp⦄ ⦃σ : L2.St⦄ ⦃ρ : Rho⦄ ⦃acc : List U⦄ ⦃Qu : List U → List Ob → Prop⦄ ⦃N : Hp → Prop⦄, Hold w M H → Env w σ ρ → PrvD w H D acc → k ρ M acc Qu →
  (∀ (acc' : List U) (M' : List Ob) (w' : Wd) (H' : Hp), (∀ {w0 : Wd} {H0 : Hp}, H0 D = none → Step w0 H0 w H → Step w0 H0 w' H') → Grow w w' → Hold w' M' H' → PrvD w' H' D acc' → Qu acc' M' → N H') → f σ H N
theorem mergeD_snoc (ps : List (Key × PyData)) (k : Key) (d : PyData) : mergeD [] (ps ++ [(k, d)]) = putD (mergeD [] ps) k d := by unfold mergeD; rw [List.foldl_append]; rfl
theorem putD_len (kvs : List (Key × PyData)) (k : Key) (d : PyData) : (putD kvs k d).length ≤ kvs.length + 1 := by
  unfold putD
  split
  · rw [List.length_map]; omega
  · rw [List.length_append]; exact Nat.le_refl _
theorem mergeD_len (ps : List (Key × PyData)) : (mergeD [] ps).length ≤ ps.length := by
  have go : ∀ r : List (Key × PyData), (mergeD [] r.reverse).length ≤ r.length := fun r => by
    induction r with
    | nil => exact Nat.le_refl _
    | cons p r ih =>
      obtain ⟨k, d⟩ := p
      rw [List.reverse_cons, mergeD_snoc, List.length_cons]
      have := putD_len (mergeD [] r.reverse) k d
      omega
  have := go ps.reverse
  rwa [List.reverse_reverse, List.length_reverse] at this
theorem lkd_put {D : Addr} {tt : TT} {tk tv : TE} {wt : WT} {wk wv : WE} (ht : LT tt wt) (hk : LE tk wk) (hv : LE tv wv) : LKD D (fPut D tt tk tv) (kPut wt wk wv) := fun w M H σ ρ acc Qu N h e p hq o =>
  ht h e hq fun b M2 c w2 H2 s2 h2 r2 q2 => by
    have r : b = c := r2
    subst r
    cases b with
    | false => exact o _ _ _ _ (fun _ s => s.trans h s2) s2.grow h2 (p.step s2) q2
    | true =>
      refine hk h2 (e.grow s2.grow) q2 fun x M3 y w3 H3 s3 h3 r3 q3 => hv h3 ((e.grow s2.grow).grow s3.grow) q3 fun x4 M4 y4 w4 H4 s4 h4 r4 q4 => ?_
      have s24 := (s2.trans h2 s3).trans h3 s4
      have p4 := p.step s24
      obtain ⟨k, d, rfl, rfl, hl, q⟩ := q4
      obtain ⟨ps, ks, rfl, hd, rk⟩ := p4.at_
      have e1 := mergeD_len ps
      have e2 := Paired.length rk
      have hl' : ps.length < sizeLine := by simpa [itemsU] using hl
      refine ⟨ks, k, keyU_v r3, hd, by omega, ?_⟩
      refine o (itemsU ps ++ [.d (.tuple [kD k, d])]) M4 w4 _ (fun hD s => (s.trans h s24).prv hD) s24.grow (h4.prv p4.F p4.th) ⟨⟨ps ++ [(k, d)], _, by simp [itemsU], upd_same, ?_⟩, p4.F, p4.th⟩ q
      rw [mergeD_snoc]
      exact putD_ok rk (show Rp w4.F d y4 from r4) k
theorem loopD_ok {D : Addr} {J : It} {g : TG} {wg : WG} {f : L2.St → Hp → (Hp → Prop) → Prop} {k : WK} {vs : List Nat} {σ : L2.St} {ρ : Rho} {us acc : List U} {G : List Ob → Prop} {w1 : Wd} {M1 : List Ob} {H1 : Hp} {Qu : List U → List Ob → Prop} {Qd : Hp → Prop}
    (hg : LGv vs g wg) (hk : LKD D f k) (h1 : Hold w1 M1 H1) (e : Env w1 σ ρ) (p : PrvD w1 H1 D acc) (j : JOk w1 J us G) (q : wLcGo G wg k (wipeR ρ vs) us acc M1 Qu)
    (o : ∀ (acc' : List U) (M' : List Ob) (w' : Wd) (H' : Hp), (∀ {w0 : Wd} {H0 : Hp}, H0 D = none → Step w0 H0 w1 H1 → Step w0 H0 w' H') → Grow w1 w' → Hold w' M' H' → PrvD w' H' D acc' → Qu acc' M' → Qd H') :
    ∃ Wi : Nat → Nat → Hp → Prop, (∃ m, Wi 0 m H1) ∧ fLoop D J g σ vs f Qd Wi := by
  refine ⟨fun i m H' => m = us.length - i ∧ ∃ w' M' acc', (∀ {w0 : Wd} {H0 : Hp}, H0 D = none → Step w0 H0 w1 H1 → Step w0 H0 w' H') ∧ Grow w1 w' ∧ Hold w' M' H' ∧ PrvD w' H' D acc' ∧ wLcGo G wg k (wipeR ρ vs) (us.drop i) acc' M' Qu,
    ⟨us.length, by simp, w1, M1, acc, fun _ s => s, Grow.refl _, h1, p, q⟩, ?_⟩
  rintro i m H' ⟨hm, w', M', acc', s', g', h', p', q'⟩
  by_cases hi' : i < us.length
  · right
    have hG := wLcGo_G q'
    rw [List.drop_eq_getElem_cons hi'] at q'
    refine ⟨j.go i g' h' hG hi', fun H2 => ∃ w2 M2 acc2, (∀ {w0 : Wd} {H0 : Hp}, H0 D = none → Step w0 H0 w1 H1 → Step w0 H0 w2 H2) ∧ Grow w1 w2 ∧ Hold w2 M2 H2 ∧ PrvD w2 H2 D acc2 ∧ wLcGo G wg k (wipeR ρ vs) (us.drop (i + 1)) acc2 M2 Qu, ?_, fun v H2 y => ?_⟩
    · rintro H2 ⟨w2, M2, acc2, z⟩
      exact ⟨us.length - (i + 1), by omega, rfl, w2, M2, acc2, z⟩
    · obtain ⟨w2, s2, h2, r2⟩ := j.yld i g' h' hG (List.getElem?_eq_getElem hi') y
      have g2 := g'.trans s2.grow
      refine hg h2 ((e.wipe vs).grow g2) r2 q'.2 fun ρ3 M3 σ3 w3 H3 s3 h3 e3 z3 q3 => ?_
      have s23 := s2.trans h2 s3
      refine ⟨z3.trans ?_, hk h3 e3 (p'.step s23) q3 fun acc4 M4 w4 H4 s4 g4 h4 p4 q4 => ⟨w4, M4, acc4, fun hD s => s4 hD ((s' hD s).trans h' s23), (g2.trans s3.grow).trans g4, h4, p4, q4⟩⟩
      have ww : ∀ (vs us : List Nat) (τ : L2.St), (∀ i ∈ us, i ∈ vs) → wipe (wipe τ us) vs = wipe τ vs := by
        intro vs us
        induction us with
        | nil => intro τ _; rfl
        | cons u us ih =>
          intro τ hu
          show wipe ((wipe τ us).set u none) vs = wipe τ vs
          rw [wipe_set (hu u List.mem_cons_self), ih τ fun i hi => hu i (List.mem_cons_of_mem _ hi)]
      exact ww vs vs σ fun _ h => h
  · left
    rw [List.drop_of_length_le (by omega)] at q'
    exact ⟨j.stop i g' h' q'.1 (by omega), o _ _ _ _ s' g' h' p' q'.2⟩
def wDc (ww : WI) (wg : WG) (k : WK) (vs : List Nat) : WE := fun ρ M Q => ww ρ M fun us G M1 => wLcGo G wg k (wipeR ρ vs) us [] M1 fun acc M2 => ∃ ps, acc = itemsU ps ∧ Q (.p M2.length) (M2 ++ [.dic (mergeD [] ps)])
theorem itemsU_inj : ∀ {a b : List (Key × PyData)}, itemsU a = itemsU b → a = b
  | [], [], _ => rfl
  | [], _ :: _, h => by cases h
  | _ :: _, [], h => by cases h
  | (k, d) :: a, (k', d') :: b, h => by
    have h' : U.d (.tuple [kD k, d]) :: itemsU a = U.d (.tuple [kD k', d']) :: itemsU b := h
    injection h' with h1 h2
    rw [itemsU_inj h2]
    injection h1 with h1
    injection h1 with h1
    injection h1 with h3 h4
    injection h4 with h4
    have ek : k = k' := by cases k <;> cases k' <;> cases h3 <;> rfl
    rw [ek, h4]
theorem le_dc {wi : TI} {ww : WI} {g : TG} {wg : WG} {tt : TT} {wt : WT} {tk tv : TE} {wk wv : WE} {vs : List Nat} (hi : LI wi ww) (hg : LGv vs g wg) (ht : LT tt wt) (hk : LE tk wk) (hv : LE tv wv) : LE (tDc wi g tt tk tv vs) (wDc ww wg (kPut wt wk wv) vs) := fun w M H σ ρ Qu Q h e hq o =>
  hi h e hq fun us G M1 J w1 H1 s1 h1 j q D hD => by
    have hD0 : H D = none := s1.none_back h1 hD
    have F0 := h1.newF hD
    have t0 := h1.off hD
    have p0 : PrvD w1 (upd H1 D (.dK [])) D [] := ⟨⟨[], [], rfl, upd_same, .nil⟩, F0, t0⟩
    refine loopD_ok hg (lkd_put ht hk hv) (h1.prv F0 t0) (e.grow s1.grow) p0 j q fun acc' M' w' H' s' g' h' p' q' => ?_
    obtain ⟨ps, rfl, qq⟩ := q'
    obtain ⟨ps', ks, e1, e2, e3⟩ := p'.at_
    have := itemsU_inj e1
    subst this
    exact o _ _ _ _ _ ((s' hD0 (s1.prv hD0)).prvCell hD0) (h'.prvCell p'.F p'.th e2 (RO.Dic e3)) (RU.P (Wd.cell_at h')) qq
end DL

namespace DL
open PySem L2 PySem.Spec PyProof.Rows
/-! ### an empty dict -/
def wDNewK : WE := fun _ M Q => Q (.p M.length) (M ++ [.dic []])
theorem le_dnewK : LE tDNewK wDNewK := fun w M H σ ρ Qu Q h e hq o p hp =>
  o _ _ _ _ _ (Step.cell h hp) (h.cell' hp (RO.Dic .nil)) (RU.P (Wd.cell_at h)) hq
/-! ### == of instances with an own __eq__, both answers -/
def rOwn (C : Addr) (sp : Sp) (E : XK) : R2 := fun x y H Q => ∃ a b dx dy fs gs, x = .ref a ∧ y = .ref b ∧ H a = some (.ins C dx fs) ∧ H b = some (.ins C dy gs) ∧ sp [.ref a, .ref b] H (fun v H' => ∃ t, v = .bl t ∧ Q (.bl t) H') E
theorem op_eqOwn {X : Cx} {n : Nat} {CX : CXT} {C f : Addr} {fd : FuncData} {ps : List Str} {sp : Sp} {E : XK} (F : FnOk X.prog X.w X.K X.mg X.base CX n f fd ps sp) (hr : Room n X.A)
    (hs : PySem.W.findIn X.K (.ref C) "__eq__" = some (some (.ref f))) (hf : PySem.W.isFn X.K (.ref f) = true) (hb : Binds X.K fd ps []) (hx : Passes CX X E) : OpR X (compareOp .Eq) (rOwn C sp E) := by
  intro pins s σ H x y v u Q I rx ry hq
  obtain ⟨a, b, dx, dy, fs, gs, rfl, rfl, ha, hb', hsp⟩ := hq
  cases rx
  cases ry
  show wpAny (model X.prog X.w) X.A (richCompare .Eq _ _) (EP X pins σ Q) X.xe s
  obtain ⟨mA, J, _⟩ := ins_get I.hok ha
  obtain ⟨mB, J', _⟩ := ins_get I.hok hb'
  obtain ⟨od, J, _⟩ := J.look
  obtain ⟨od', J', _⟩ := J'.look
  obtain ⟨m, hF⟩ := I.fr
  refine PySem.W.cmp_K (op := .Eq) (tb := .ref C) hr.units0 hF I.ok.mod.kin J J'.type (by simp [PySem.W.notFirst]) hs hf ?_
  have hl := F.len _ _ _ _ hsp
  have r2 : Vals [V.ref a, V.ref b] [Value.ref a, Value.ref b] := .cons rfl (.cons rfl .nil)
  refine wpAny_call (codeAny_mono (F.run X.A X.stack s H ⟨[.ref a, .ref b], []⟩ [.ref a, .ref b] [.ref a, .ref b] _ E hr I.env0 (by
    have := hb s [.ref a, .ref b] I.kIn (by simpa using hl)
    simpa using this) r2 hsp) fun r s' hq => ?_)
  cases r with
  | error e => exact hx pins σ H s e s' I hq
  | ok fl =>
    cases fl with
    | ret w =>
      obtain ⟨z, H', I', rz, t, ez, q⟩ := I.after hq
      subst ez
      cases rz
      exact ⟨.bl t, H', I', rfl, q⟩
    | next => exact False.elim hq
    | brk => exact False.elim hq
    | cont => exact False.elim hq
/-- x == y as a call of __eq__ -/
def wEqOwn (C : Addr) (is : List Nat) (d : DSp) : R2' := fun x y M Q => ∃ n fs m gs, x = .p n ∧ y = .p m ∧ M[n]? = some (.ins C fs) ∧ M[m]? = some (.ins C gs) ∧ cC is d [] [x, y] M fun u M' => ∃ t, u = .d (.bool t) ∧ Q (.d (.bool t)) M'
theorem lr_eqOwn {C : Addr} {is : List Nat} {d : DSp} {E : XK} : LR (rOwn C (liftSp d) E) (wEqOwn C is d) := fun w M H x y vx vy Qu Q h rx ry hq o => by
  obtain ⟨n, fs, m, gs, rfl, rfl, hm, hm2, q⟩ := hq
  obtain ⟨a, ob, rfl, ha, ho, dx, gs1, rfl, r⟩ := cell_at h rx hm (fun q => nomatch q)
  obtain ⟨b, ob2, rfl, hb, ho2, dy, gs2, rfl, r2⟩ := cell_at h ry hm2 (fun q => nomatch q)
  refine ⟨a, b, dx, dy, gs1, gs2, rfl, rfl, ho, ho2, ?_⟩
  have := cC_ok (dvs := []) (dv := []) (E := E) (us := [.p n, .p m]) (vs := [.ref a, .ref b]) (fun _ => .nil) h (.cons rx (.cons ry .nil)) q (Q := fun v H' => ∃ t, v = .bl t ∧ Q (.bl t) H') fun u M' v w' H' s' h' r' q' => by
    obtain ⟨t, rfl, q'⟩ := q'
    have e : v = .bl t := by cases (show Rp w'.F (.bool t) v from r'); rfl
    subst e
    exact ⟨t, rfl, o _ _ _ _ _ s' h' r' q'⟩
  exact this
end DL

namespace DL
open PySem L2 PySem.Spec PyProof.Rows
/-! ### != of instances with an own __eq__: object.__ne__ -/
section
open PySem.W PySem.Calls
variable {prog : Program} {w : World} {A : Around} {E : Value → Shared → Prop} {s : Shared} {K : PySem.W.Frag} {x C L f : Addr} {h₀ : Heap} {m : Str → Option Value} {ox : Obj} {od : Option Obj}
theorem ne_slot : Slot "object" "__ne__" "object.__ne__" :=
  Slot.of (T := "object") (name := "__ne__") (owner := "object") (n := "__ne__") (by rw [typeLookup_type, builtinLookup_eq_fast]; kernel_rfl) (by decide +kernel) (by decide +kernel) (by decide +kernel)
    (.inl (by decide +kernel)) (by rw [isSubtype_type]; kernel_rfl)
theorem neBound_K {M : Model} {args : List Value} {Q : Option Value → Shared → Prop} (X : K.In s.heap) (I : InstAt s.heap x ox C od) (hs : findIn K (.ref C) "__ne__" = some (some (.builtin "object.__ne__")))
    (h : wpAny M A (call (.builtin "object.__ne__") (.ref x :: args)) (fun v => Q (some v)) E s) : wpAny M A (callSpecialIfBound? (.ref x) "__ne__" args) Q E s := by
  simp only [callSpecialIfBound?, bindSpecialIfBound?]
  refine wpAny_holding (wpAny_bind (wpAny_bind (wpAny_bind (I.type.here ((looks_findIn X hs).here ?_)))))
  simp only [ne_slot.bind]
  refine wpAny_bind (wpAny_askSetting (wpAny_ite ?_))
  have fin : wpAny M A (call (.builtin "object.__ne__") ([.ref x] ++ args) >>= fun v => pure (some v)) Q E s := wpAny_bind (wpAny_mono h (fun v s' h' => wpAny_pure h') fun _ _ h' => h')
  split
  · exact wpAny_bind (wpAny_pure (wpAny_pure fin))
  · exact wpAny_tryCatch (wpAny_bind (wpAny_pure (wpAny_pure fin)))
theorem objNe_own {b : Value} {Q : Fin → Shared → Prop} (hu : A.units < cLine) (X : K.In s.heap) (I : InstAt s.heap x ox C od) (hs : findIn K (.ref C) "__eq__" = some (some (.ref f))) (hf : isFn K (.ref f) = true)
    (h : wpAny (model prog w) A (call (.ref f) [.ref x, b]) (fun v s' => ∃ t, v = .bool t ∧ Q (.done (.ret (.bool (!t)))) s') E s) : wpAny (model prog w) A (Builtin.«object.__ne__» ⟨[.ref x, b], []⟩) Q E s := by
  unfold Builtin.«object.__ne__»
  refine wpAny_bind (wpAny_pure ?_)
  refine wpAny_bind (wpAny_cRoomFor hu ?_)
  refine wpAny_bind (ifBound_K X I hs hf (wpAny_mono h (fun v s' hv => ?_) fun _ _ e => e))
  obtain ⟨t, rfl, q⟩ := hv
  cases t <;> (repeat (first | exact q | wp_step))
theorem ne_K {b tb : Value} {Q : Value → Shared → Prop} (hu : A.units + 1 < cLine) (FF : Fr h₀ L s.heap m) (X₀ : K.In h₀) (I : InstAt s.heap x ox C od) (hb : Looks (model prog w) s.heap (typeOf b) tb) (hn : notFirst K C tb = true)
    (hne : findIn K (.ref C) "__ne__" = some (some (.builtin "object.__ne__"))) (hm : mroIn K C (.type "object") = some true) (hs : findIn K (.ref C) "__eq__" = some (some (.ref f))) (hf : isFn K (.ref f) = true)
    (h : wpAny (model prog w) A.in1 (call (.ref f) [.ref x, b]) (fun v s' => ∃ t, v = .bool t ∧ Q (.bool (!t)) s') E s) : wpAny (model prog w) A (richCompare .NotEq (.ref x) b) Q E s := by
  have X := X₀.keeps FF.keep
  have hu0 : A.units < cLine := Nat.lt_of_succ_lt hu
  have hi : Looks (model prog w) s.heap (isInstance (.ref x) (.type "object")) true := I.type.andThen (looks_subIn X (t := .ref C) hm)
  have one : wpAny (model prog w) A (tryCompare (.ref x) "__ne__" b) (fun r s' => ∃ v, r = some v ∧ Q v s') E s := by
    unfold tryCompare
    refine wpAny_bind (neBound_K X I hne (wpAny_call (codeAny_call_builtin ne_slot.plain PySem.F.cmpEntry_ne (check_slot PySem.F.cmpKind_ne PySem.F.cmpSplit_ne hi (PySem.F.cmpArgs_ne _ _) (objNe_own (A := A.in1) hu X I hs hf (wpAny_mono h (fun v s' hv => ?_) fun _ _ e => e))))))
    obtain ⟨t, rfl, q⟩ := hv
    exact ⟨t, rfl, wpAny_pure ⟨_, rfl, q⟩⟩
  unfold richCompare
  simp only [oneThing_ref]
  refine wpAny_holding (wpAny_bind (wpAny_cRoomFor hu0 ?_))
  refine wpAny_bind (I.type.here (wpAny_bind (hb.here ?_)))
  split
  · rename_i q
    have e : subIn K tb (.ref C) = some false := by
      rcases Bool.or_eq_true_iff.mp hn with e | e
      · rw [beq_iff_eq.mp e] at q; simp at q
      · exact beq_iff_eq.mp e
    refine wpAny_bind ((looks_subIn X e).here ?_)
    simp only [Bool.false_eq_true, if_false]
    refine wpAny_bind (wpAny_mono one (fun r s' z => ?_) fun _ _ e => e)
    obtain ⟨v, rfl, hq⟩ := z
    exact wpAny_pure hq
  · refine wpAny_bind (wpAny_pure ?_)
    simp only [Bool.false_eq_true, if_false]
    refine wpAny_bind (wpAny_mono one (fun r s' z => ?_) fun _ _ e => e)
    obtain ⟨v, rfl, hq⟩ := z
    exact wpAny_pure hq
end
def rNeOwn (C : Addr) (sp : Sp) (E : XK) : R2 := fun x y H Q => ∃ a b dx dy fs gs, x = .ref a ∧ y = .ref b ∧ H a = some (.ins C dx fs) ∧ H b = some (.ins C dy gs) ∧ sp [.ref a, .ref b] H (fun v H' => ∃ t, v = .bl t ∧ Q (.bl (!t)) H') E
theorem op_neOwn {X : Cx} {n : Nat} {CX : CXT} {C f : Addr} {fd : FuncData} {ps : List Str} {sp : Sp} {E : XK} (F : FnOk X.prog X.w X.K X.mg X.base CX n f fd ps sp) (hr : Room (n + 1) X.A)
    (hne : PySem.W.findIn X.K (.ref C) "__ne__" = some (some (.builtin "object.__ne__"))) (hm : PySem.W.mroIn X.K C (.type "object") = some true)
    (hs : PySem.W.findIn X.K (.ref C) "__eq__" = some (some (.ref f))) (hf : PySem.W.isFn X.K (.ref f) = true) (hb : Binds X.K fd ps []) (hx : Passes CX X E) : OpR X (compareOp .NotEq) (rNeOwn C sp E) := by
  intro pins s σ H x y v u Q I rx ry hq
  obtain ⟨a, b, dx, dy, fs, gs, rfl, rfl, ha, hb', hsp⟩ := hq
  cases rx
  cases ry
  show wpAny (model X.prog X.w) X.A (richCompare .NotEq _ _) (EP X pins σ Q) X.xe s
  obtain ⟨mA, J, _⟩ := ins_get I.hok ha
  obtain ⟨mB, J', _⟩ := ins_get I.hok hb'
  obtain ⟨od, J, _⟩ := J.look
  obtain ⟨od', J', _⟩ := J'.look
  obtain ⟨m, hF⟩ := I.fr
  refine ne_K (tb := .ref C) (by have := hr.in1.units0; exact this) hF I.ok.mod.kin J J'.type (by simp [PySem.W.notFirst]) hne hm hs hf ?_
  have hl := F.len _ _ _ _ hsp
  have r2 : Vals [V.ref a, V.ref b] [Value.ref a, Value.ref b] := .cons rfl (.cons rfl .nil)
  have e0 : Env0 X.prog X.w X.K X.mg X.base X.A.in1 X.stack s H := by
    have e := I.env0
    exact ⟨e.frames, e.mod, e.bs, e.bsz, e.funs, e.frf, e.hok, e.bare⟩
  refine wpAny_call (codeAny_mono (F.run X.A.in1 X.stack s H ⟨[.ref a, .ref b], []⟩ [.ref a, .ref b] [.ref a, .ref b] _ E hr.in1 e0 (by
    have := hb s [.ref a, .ref b] I.kIn (by simpa using hl)
    simpa using this) r2 hsp) fun r s' hq => ?_)
  cases r with
  | error e => exact hx pins σ H s e s' I hq
  | ok fl =>
    cases fl with
    | ret w =>
      obtain ⟨z, H', I', rz, t, ez, q⟩ := I.after hq
      subst ez
      cases rz
      exact ⟨t, rfl, .bl (!t), H', I', rfl, q⟩
    | next => exact False.elim hq
    | brk => exact False.elim hq
    | cont => exact False.elim hq
def wNeOwn (C : Addr) (is : List Nat) (d : DSp) : R2' := fun x y M Q => ∃ n fs m gs, x = .p n ∧ y = .p m ∧ M[n]? = some (.ins C fs) ∧ M[m]? = some (.ins C gs) ∧ cC is d [] [x, y] M fun u M' => ∃ t, u = .d (.bool t) ∧ Q (.d (.bool (!t))) M'
theorem lr_neOwn {C : Addr} {is : List Nat} {d : DSp} {E : XK} : LR (rNeOwn C (liftSp d) E) (wNeOwn C is d) := fun w M H x y vx vy Qu Q h rx ry hq o => by
  obtain ⟨n, fs, m, gs, rfl, rfl, hm, hm2, q⟩ := hq
  obtain ⟨a, ob, rfl, ha, ho, dx, gs1, rfl, r⟩ := cell_at h rx hm (fun q => nomatch q)
  obtain ⟨b, ob2, rfl, hb, ho2, dy, gs2, rfl, r2⟩ := cell_at h ry hm2 (fun q => nomatch q)
  refine ⟨a, b, dx, dy, gs1, gs2, rfl, rfl, ho, ho2, ?_⟩
  have := cC_ok (dvs := []) (dv := []) (E := E) (us := [.p n, .p m]) (vs := [.ref a, .ref b]) (fun _ => .nil) h (.cons rx (.cons ry .nil)) q (Q := fun v H' => ∃ t, v = .bl t ∧ Q (.bl (!t)) H') fun u M' v w' H' s' h' r' q' => by
    obtain ⟨t, rfl, q'⟩ := q'
    have e : v = .bl t := by cases (show Rp w'.F (.bool t) v from r'); rfl
    subst e
    exact ⟨t, rfl, o _ _ _ _ _ s' h' (RU.D (.bl _)) q'⟩
  exact this
end DL

namespace DL
open PySem L2 PySem.Spec PyProof.Rows
/-! ### == of two dicts of flat values, the equal case -/
def wEqDic : R2' := fun x y M Q => ∃ n kvs m kvs2, x = .p n ∧ y = .p m ∧ M[n]? = some (.dic kvs) ∧ M[m]? = some (.dic kvs2) ∧ kvs.length = kvs2.length ∧ flatKv kvs = true ∧ (∀ p ∈ kvs, valD kvs2 p.1 = some p.2) ∧ Q (.d (.bool true)) M
theorem flatB_v {d : PyData} (h : flatD d = true) : flatB (vOf d) = true := by
  cases d <;> first | rfl | cases h
theorem lr_eqDic : LR rEqDA wEqDic := fun w M H x y vx vy Qu Q h rx ry hq o => by
  obtain ⟨n, kvs, m, kvs2, rfl, rfl, hm, hm2, hl, hf, hp, q⟩ := hq
  obtain ⟨a, ob, rfl, ha, ho, ks, rfl, r⟩ := cell_at h rx hm (fun q => nomatch q)
  obtain ⟨b, ob2, rfl, hb, ho2, ls, rfl, r2⟩ := cell_at h ry hm2 (fun q => nomatch q)
  have e1 := flat_ks r hf
  refine ⟨a, b, ks, ls, rfl, rfl, ho, ho2, by rw [← Paired.length r, ← Paired.length r2]; exact hl, ?_, o.here h (RU.D (.bl _)) q⟩
  intro p hp2
  rw [e1] at hp2
  obtain ⟨q2, hq2, rfl⟩ := List.mem_map.mp hp2
  have hfl : flatD q2.2 = true := by
    unfold flatKv at hf
    rw [List.all_eq_true] at hf
    exact hf q2 hq2
  refine ⟨?_, flatB_v hfl⟩
  rcases valD_ok r2 q2.1 with ⟨z1, _⟩ | ⟨d, v, z1, z2, z3⟩
  · rw [hp q2 hq2] at z1; cases z1
  · rw [hp q2 hq2] at z1
    cases z1
    rw [z2, flat_v z3 hfl]
/-! ### isinstance of an own class -/
def wIsC (C : Addr) (we : WE) : WE := fun ρ M Q => we ρ M fun x M1 => ∃ n fs, x = .p n ∧ M1[n]? = some (.ins C fs) ∧ Q (.d (.bool true)) M1
theorem le_isC {C : Addr} {te : TE} {we : WE} (he : LE te we) : LE (tCB (fun xs H Q => ∃ a dx fs, xs = [.ref a, .ref C] ∧ H a = some (.ins C dx fs) ∧ Q (.bl true) H) (tCons te (tCons (tC (.ref C)) tNil))) (wIsC C we) := fun _ _ _ _ _ _ _ h e hq o =>
  he h e hq fun x M1 v w1 H1 s1 h1 r1 q1 => by
    obtain ⟨n, fs, rfl, hm, q⟩ := q1
    obtain ⟨a, ob, rfl, ha, ho, dx, gs, rfl, r⟩ := cell_at h1 r1 hm (fun q => nomatch q)
    exact ⟨a, dx, gs, rfl, ho, (o.trans s1 h1).here h1 (RU.D (.bl _)) q⟩
end DL

namespace DL
open PySem L2 PySem.Spec PyProof.Rows
/-! ### a walk over a list, data or a cell -/
/-- the items of a list that is data or a cell; what the cell must be meanwhile -/
def lstU (M : List Ob) (u : U) (ds : List PyData) (G : List Ob → Prop) : Prop := (u = .d (.list ds) ∧ G = fun _ => True) ∨ ∃ n, u = .p n ∧ M[n]? = some (.lst ds) ∧ G = fun M' => M'[n]? = some (.lst ds)
def wIListX (we : WE) : WI := fun ρ M Q => we ρ M fun x M1 => ∃ ds G, lstU M1 x ds G ∧ Q (ds.map U.d) G M1
theorem li_listX {K : PySem.W.Frag} {te : TE} {we : WE} (he : LE te we) : LI (iList K te) (wIListX we) := fun _ _ _ _ _ _ _ h e hq k =>
  he h e hq fun _ _ _ _ _ s1 h1 r1 q1 => by
    obtain ⟨ds, G, hl, q⟩ := q1
    rcases hl with ⟨rfl, rfl⟩ | ⟨n, rfl, hm, rfl⟩
    · cases (show Rp _ _ _ from r1) with
      | lst ha r => exact ⟨_, rfl, ⟨_, SqL.of (h1.sub _ _ ha)⟩, k _ _ _ _ _ _ s1 h1 (j_list ha r) q⟩
    · obtain ⟨a, ob, rfl, ha, ho, vs, rfl, r⟩ := cell_at h1 r1 hm (fun q => nomatch q)
      exact ⟨_, rfl, ⟨_, SqL.of ho⟩, k _ _ _ _ _ _ s1 h1 (j_listC ha) q⟩
/-! ### list.clear -/
def wClear : WM := fun x ys M Q => ∃ n ds, x = .p n ∧ ys = [] ∧ M[n]? = some (.lst ds) ∧ Q (.d .none) (M.set n (.lst []))
theorem lm_clear : LM rClear wClear := fun w M H x vx ys vs Qu Q h rx rs hq o => by
  obtain ⟨n, ds, rfl, rfl, hm, q⟩ := hq
  cases rs
  obtain ⟨a, ob, rfl, ha, ho, ws, rfl, rr⟩ := cell_at h rx hm (fun q => nomatch q)
  exact ⟨a, ws, rfl, rfl, ho, set_out h ha hm (fun q => nomatch q) (RO.L .nil) (RU.D .non) q o⟩
/-! ### sorted(d) of a dict of texts -/
def wSortedD : List U → List Ob → (U → List Ob → Prop) → Prop := fun us M Q => ∃ n kvs ks, us = [.p n] ∧ M[n]? = some (.dic kvs) ∧ kvs.map (·.1) = ks.map Sum.inr ∧ ks.length < 64 ∧ ∀ ys : List Str, ys.Perm ks → Q (.d (.list (ys.map PyData.str))) M
theorem krel_keys {F : Hp} {kvs : List (Key × PyData)} {ks : List (Key × V)} (r : KRel F kvs ks) : ks.map (·.1) = kvs.map (·.1) := by
  induction r with
  | nil => rfl
  | cons h t ih => rw [List.map_cons, List.map_cons, ih, h.1]
abbrev rSortedD : List V → Hp → VK → Prop := fun xs H Q => ∃ (a : Addr) (kvs : List (Key × V)) (ks : List Str), xs = [.ref a] ∧ Rd H a (.dK kvs) ∧ kvs.map (·.1) = ks.map Sum.inr ∧ ks.length < 64 ∧
    ∀ ys p, ys.Perm ks → sortedS ys = true → H p = none → Q (.ref p) (upd H p (.lst (ys.map V.str)))
theorem lc_sortedD : LC rSortedD wSortedD := fun w M H x vx Qu Q h rx hq o => by
  obtain ⟨n, kvs, ks, rfl, hm, hk, hl, q⟩ := hq
  obtain ⟨v, rfl, r⟩ := rus1 rx
  obtain ⟨a, ob, rfl, ha, ho, vs, rfl, rr⟩ := cell_at h r hm (fun q => nomatch q)
  refine ⟨a, vs, ks, rfl, .inl ho, (krel_keys rr).trans hk, hl, fun ys p hp _ hn => ?_⟩
  exact o _ _ _ _ _ (Step.put h hn) (h.put hn) (RU.D (.lst Wd.putF (RpL.strs ys))) (q ys hp)
/-! ### a call by which a list's cell is read as data, and nothing of it is held behind -/
def flatU : U → Prop
  | .d d => flatD d = true
  | .p _ => True
  | _ => False
def flatOb : Ob → Prop
  | .lst ds => ∀ d ∈ ds, flatD d = true
  | .dic kvs => flatKv kvs = true
  | .ins _ fs => ∀ p ∈ fs, ∃ n, p.2 = .p n
  | .tpp us => ∀ u ∈ us, ∃ n, u = .p n
  | .lsp us => ∀ u ∈ us, ∃ n, u = .p n
  | .dead => True
  | _ => False
theorem flat_rp {F F' : Hp} {d : PyData} {v : V} (f : flatD d = true) (r : Rp F d v) : Rp F' d v := by
  cases r <;> first | (cases f; done) | constructor
theorem flat_rpl {F F' : Hp} {ds : List PyData} {vs : List V} (f : ∀ d ∈ ds, flatD d = true) (r : RpL F ds vs) : RpL F' ds vs := by
  induction ds generalizing vs with
  | nil => cases r; exact .nil
  | cons d ds ih =>
    cases r with
    | cons r t => exact .cons (flat_rp (f d List.mem_cons_self) r) (ih (fun x hx => f x (List.mem_cons_of_mem _ hx)) t)
theorem flat_ru {w w' : Wd} (e : w'.th = w.th) {u : U} {v : V} (f : flatU u) (r : RU w u v) : RU w' u v := by
  cases u with
  | d d => exact flat_rp f r
  | p n => exact (e ▸ r : ∃ a, w'.th[n]? = some a ∧ v = .ref a)
  | v x => exact r
  | s K ns => exact f.elim
theorem paired_mem {α β : Type} {R S : α → β → Prop} : ∀ {xs : List α} {ys : List β}, Paired R xs ys → (∀ x ∈ xs, ∀ y, R x y → S x y) → Paired S xs ys
  | _, _, .nil, _ => .nil
  | _, _, .cons h t, f => .cons (f _ List.mem_cons_self _ h) (paired_mem t fun x hx => f x (List.mem_cons_of_mem _ hx))
theorem flat_ro {w w' : Wd} (e : w'.th = w.th) {m : Ob} {o : HO} (f : flatOb m) (r : RO w m o) : RO w' m o := by
  cases m with
  | lst ds => obtain ⟨vs, rfl, r⟩ := r; exact ⟨vs, rfl, flat_rpl f r⟩
  | lsp us => obtain ⟨vs, rfl, r⟩ := r; exact ⟨vs, rfl, paired_mem r fun u hu v q => by obtain ⟨n, rfl⟩ := f u hu; exact flat_ru e trivial q⟩
  | tpp us => obtain ⟨vs, rfl, r⟩ := r; exact ⟨vs, rfl, paired_mem r fun u hu v q => by obtain ⟨n, rfl⟩ := f u hu; exact flat_ru e trivial q⟩
  | dic kvs =>
    obtain ⟨ks, rfl, r⟩ := r
    refine ⟨ks, rfl, paired_mem r fun p hp q z => ⟨z.1, flat_rp ?_ z.2⟩⟩
    have f' : flatKv kvs = true := f
    unfold flatKv at f'
    rw [List.all_eq_true] at f'
    exact f' p hp
  | ins C fs =>
    obtain ⟨dx, gs, rfl, r⟩ := r
    refine ⟨dx, gs, rfl, paired_mem r fun p hp q z => ⟨z.1, ?_⟩⟩
    obtain ⟨n, en⟩ := f p hp
    have z2 := z.2
    rw [en] at z2 ⊢
    exact flat_ru e trivial z2
  | dip kvs => exact f.elim
  | dit kvs => exact f.elim
  | lkd kvs od => exact f.elim
  | dead => trivial
theorem unfreeze {w w2 : Wd} {Mc : List Ob} {H H2 : Hp} {a : Addr} {o : HO} {th : List Addr} (hF : w.F a = none) (s : Step ⟨(w.put a o).F, th⟩ H w2 H2) (h2 : Hold w2 Mc H2) (f : ∀ o ∈ Mc, flatOb o) :
    Step ⟨w.F, th⟩ H ⟨fun b => if b = a then none else w2.F b, w2.th⟩ H2 ∧ Hold ⟨fun b => if b = a then none else w2.F b, w2.th⟩ Mc H2 := by
  refine ⟨⟨fun b u e => ?_, s.th, s.fr, fun b u e1 e2 => ?_⟩, ⟨h2.len, h2.nd, fun b u e => ?_, fun n b m e1 e2 => ?_⟩⟩
  · have e' : w.F b = some u := e
    have hb : b ≠ a := fun q => by subst q; rw [hF] at e'; cases e'
    show (if b = a then none else w2.F b) = some u
    rw [if_neg hb]
    exact s.F b u (by show (w.put a o).F b = some u; rw [Wd.putF_ne hb]; exact e')
  · have e2' : (if b = a then none else w2.F b) = some u := e2
    by_cases hb : b = a
    · rw [if_pos hb] at e2'; cases e2'
    · rw [if_neg hb] at e2'
      exact s.own b u (by show (w.put a o).F b = none; rw [Wd.putF_ne hb]; exact e1) e2'
  · have e' : (if b = a then none else w2.F b) = some u := e
    by_cases hb : b = a
    · rw [if_pos hb] at e'; cases e'
    · rw [if_neg hb] at e'; exact h2.sub b u e'
  · obtain ⟨ob, e3, e4⟩ := h2.cell n b m e1 e2
    refine ⟨ob, e3, e4.imp id fun ⟨q1, q2⟩ => ⟨?_, flat_ro (w := w2) (w' := ⟨fun b => if b = a then none else w2.F b, w2.th⟩) rfl (f m (List.mem_of_getElem? e2)) q2⟩⟩
    show (if b = a then none else w2.F b) = none
    by_cases hb : b = a
    · rw [if_pos hb]
    · rw [if_neg hb]; exact q1
def wCallB (is : List Nat) (k : Nat) (d : DSp) (dv : List PyData) (wr : WA) : WE := fun ρ M Q => wr ρ M fun us M1 => ∃ n ds, us[k]? = some (.p n) ∧ M1[n]? = some (.lst ds) ∧ outB n is = true ∧ nodB is = true ∧ allB is M1.length = true ∧
  ((us.set k (.d (.list ds))).map (rnU (inN is))).map (rnU (outN is M1.length)) = us.set k (.d (.list ds)) ∧
  (is.map fun i => rnO (inN is) (M1.getD i .dead)).map (rnO (outN is M1.length)) = (is.map fun i => M1.getD i .dead) ∧
  d ((us.set k (.d (.list ds))).map (rnU (inN is)) ++ dv.map U.d) (is.map fun i => rnO (inN is) (M1.getD i .dead)) fun u Mc => flatU u ∧ (∀ o ∈ Mc, flatOb o) ∧ Q (rnU (outN is M1.length) u) (wback M1 is (Mc.map (rnO (outN is M1.length))))
theorem rus_get {w : Wd} : ∀ {us : List U} {vs : List V}, RUs w us vs → ∀ {k : Nat} {u : U}, us[k]? = some u → ∃ v, vs[k]? = some v ∧ RU w u v
  | _, _, .nil, k, u, h => by simp at h
  | _, _, .cons h t, 0, u, e => by simp at e; subst e; exact ⟨_, rfl, h⟩
  | _, _, .cons h t, k + 1, u, e => by simpa using rus_get t (by simpa using e)
theorem rus_set {w : Wd} {x : U} {v : V} (r : RU w x v) : ∀ {us : List U} {vs : List V}, RUs w us vs → ∀ {k : Nat}, vs[k]? = some v → RUs w (us.set k x) vs
  | _, _, .nil, k, e => .nil
  | _, _, .cons h t, 0, e => by simp at e; subst e; exact .cons r t
  | _, _, .cons h t, k + 1, e => .cons h (rus_set r t (by simpa using e))
theorem le_callB {is : List Nat} {k : Nat} {d : DSp} {dvs : List V} {dv : List PyData} {E : XK} {tr : TA} {wr : WA} (hd : ∀ w : Wd, RUs w (dv.map U.d) dvs) (hr : LA tr wr) : LE (tCall (liftSp d) dvs E tr) (wCallB is k d dv wr) := fun _ _ _ _ _ _ _ h e hq o =>
  hr h e hq fun us M1 vs w1 H1 s1 h1 r1 q1 => by
    obtain ⟨n, ds, hu0, hm, ho', nd', hi', hu, hc, q⟩ := q1
    have nd := nodB_ok nd'
    have hi := allB_ok hi'
    have hni := outB_ok ho'
    obtain ⟨v, hv, rv⟩ := rus_get r1 hu0
    obtain ⟨a, ob, rfl, ha, ho, ws, rfl, rr⟩ := cell_at h1 rv hm (fun q => nomatch q)
    have hF : w1.F a = none := by
      obtain ⟨_, _, e⟩ := h1.cell n a _ ha hm
      rcases e with e | ⟨e, _⟩
      · cases e
      · exact e
    have hb := h1.frz ha hm (fun q => nomatch q) ho
    have hl : ∀ i ∈ is, i < w1.th.length := fun i m => by rw [h1.len]; exact hi i m
    have hget : (is.map fun i => (M1.set n .dead).getD i .dead) = is.map fun i => M1.getD i .dead := by
      refine List.map_congr_left fun i m => ?_
      have hin : n ≠ i := fun q => hni (q ▸ m)
      simp only [List.getD_eq_getElem?_getD, List.getElem?_set_ne hin]
    have hlen : (M1.set n .dead).length = M1.length := List.length_set
    refine ⟨_, _, _, _, call_into hb nd (fun i m => by rw [hlen]; exact hi i m) (cs := is.map fun i => rnO (inN is) (M1.getD i .dead)) (by rw [hlen, hget]; exact hc), ?_, q, fun u Mc v w2 H2 s2 h2 r2 q2 => ?_⟩
    · refine rus_app ?_ (hd _)
      have r1' := rus_set (w := w1.put a (.lst ws)) (x := .d (.list ds)) (v := .ref a) (RU.D (.lst Wd.putF (rr.mono (same_put hF)))) (RUs.grow (Grow.put hF) r1) hv
      rw [← hu] at r1'
      exact mapP2 r1' fun x c r => by
        rw [← h1.len] at r
        exact RU.into (F := (w1.put a (.lst ws)).F) hl r
    · obtain ⟨f1, f2, q2⟩ := q2
      obtain ⟨s2', h2'⟩ := unfreeze hF s2 h2 f2
      have r2' := flat_ru (w := w2) (w' := ⟨fun b => if b = a then none else w2.F b, w2.th⟩) rfl f1 r2
      obtain ⟨t, ew, h3, s3⟩ := call_back h1 nd hi s2' h2'
      refine (o.trans s1 h1) _ _ _ _ _ s3 h3 ?_ q2
      rw [ew] at r2'
      rw [← h1.len]
      exact RU.back hl r2'
/-- the handed cells are said by the reading -/
def wCallX (d : DSp) (dv : List PyData) (wr : WA) : WE := fun ρ M Q => ∃ is, wCallC is d dv wr ρ M Q
theorem le_callX {d : DSp} {dvs : List V} {dv : List PyData} {E : XK} {tr : TA} {wr : WA} (hd : ∀ w : Wd, RUs w (dv.map U.d) dvs) (hr : LA tr wr) : LE (tCall (liftSp d) dvs E tr) (wCallX d dv wr) := fun _ _ _ _ _ _ _ h e ⟨_, hq⟩ o => le_callC hd hr h e hq o
/-! ### a call that leaves the cells as they were -/
theorem wback_same : ∀ (is : List Nat) (M : List Ob), wback M is (is.map fun i => M.getD i .dead) = M
  | [], M => rfl
  | i :: is, M => by
    have e : M.set i (M.getD i .dead) = M := by
      by_cases h : i < M.length
      · rw [List.getD_eq_getElem?_getD, List.getElem?_eq_getElem h]; exact List.set_getElem_self h
      · rw [List.set_eq_of_length_le (by omega)]
    show wback (M.set i (M.getD i .dead)) is (is.map fun i => M.getD i .dead) = M
    rw [e]; exact wback_same is M
def wCallQ (is : List Nat) (d : DSp) (dv : List PyData) (wr : WA) : WE := fun ρ M Q => wr ρ M fun us M1 => nodB is = true ∧ allB is M1.length = true ∧ (us.map (rnU (inN is))).map (rnU (outN is M1.length)) = us ∧
  (is.map fun i => rnO (inN is) (M1.getD i .dead)).map (rnO (outN is M1.length)) = (is.map fun i => M1.getD i .dead) ∧
  d (us.map (rnU (inN is)) ++ dv.map U.d) (is.map fun i => rnO (inN is) (M1.getD i .dead)) fun u Mc => Mc = (is.map fun i => rnO (inN is) (M1.getD i .dead)) ∧ Q (rnU (outN is M1.length) u) M1
theorem le_callQ {is : List Nat} {d : DSp} {dvs : List V} {dv : List PyData} {E : XK} {tr : TA} {wr : WA} (hd : ∀ w : Wd, RUs w (dv.map U.d) dvs) (hr : LA tr wr) : LE (tCall (liftSp d) dvs E tr) (wCallQ is d dv wr) := fun _ _ _ _ _ _ _ h e hq o =>
  hr h e hq fun us M1 vs w1 H1 s1 h1 r1 q1 => by
    obtain ⟨nd', hi', hu, hc, q⟩ := q1
    have nd := nodB_ok nd'
    have hi := allB_ok hi'
    have hl : ∀ i ∈ is, i < w1.th.length := fun i m => by rw [h1.len]; exact hi i m
    refine ⟨_, _, _, _, call_into h1 nd hi hc, ?_, q, fun u Mc v w2 H2 s2 h2 r2 q2 => ?_⟩
    · refine rus_app ?_ (hd _)
      rw [← hu] at r1
      exact mapP2 r1 fun a c r => by
        rw [← h1.len] at r
        exact RU.into hl r
    · obtain ⟨eM, q2⟩ := q2
      subst eM
      obtain ⟨t, ew, h3, s3⟩ := call_back h1 nd hi s2 h2
      rw [hc, wback_same] at h3
      refine (o.trans s1 h1) _ _ _ _ _ s3 h3 ?_ q2
      rw [ew] at r2
      rw [← h1.len]
      exact RU.back hl r2
end DL

namespace DL
open PySem L2 PySem.Spec PyProof.Rows
/-! ### cells are dropped, the others told anew: at a def's end, at the end of a loop's turn -/
def memB (i : Nat) : List Nat → Bool
  | [] => false
  | j :: js => Nat.beq i j || memB i js
def inUB (keep : List Nat) : U → Bool
  | .p n => memB n keep
  | _ => true
def inUsB (keep : List Nat) : List U → Bool
  | [] => true
  | u :: us => inUB keep u && inUsB keep us
def inKsB (keep : List Nat) : List (Key × U) → Bool
  | [] => true
  | u :: us => inUB keep u.2 && inKsB keep us
def inFsB (keep : List Nat) : List (Str × U) → Bool
  | [] => true
  | u :: us => inUB keep u.2 && inFsB keep us
def inObB (keep : List Nat) : Ob → Bool
  | .lsp us => inUsB keep us
  | .tpp us => inUsB keep us
  | .dip kvs => inKsB keep kvs
  | .ins _ fs => inFsB keep fs
  | _ => true
def preB : Nat → Nat → List Nat → Bool
  | _, 0, _ => true
  | s, n + 1, k :: ks => Nat.beq k s && preB (s + 1) n ks
  | _, _ + 1, [] => false
def obsB (keep : List Nat) (M : List Ob) : List Nat → Bool
  | [] => true
  | i :: is => inObB keep (M.getD i .dead) && obsB keep M is
def keepB (m0 : Nat) (keep : List Nat) (M : List Ob) : Bool := preB 0 m0 keep && nodB keep && allB keep M.length && obsB keep M keep
theorem memB_ok {i : Nat} : ∀ {is : List Nat}, memB i is = true → i ∈ is
  | [], h => nomatch h
  | j :: js, h => by
    have h' : (Nat.beq i j || memB i js) = true := h
    rw [Bool.or_eq_true] at h'
    rcases h' with h' | h'
    · rw [Nat.eq_of_beq_eq_true h']; exact List.mem_cons_self
    · exact List.mem_cons_of_mem _ (memB_ok h')
theorem inUB_ok {keep : List Nat} {u : U} (h : inUB keep u = true) : inU keep u := by
  cases u with
  | p n => exact memB_ok h
  | d d => trivial
  | v x => trivial
  | s K ns => trivial
theorem inUsB_ok {keep : List Nat} : ∀ {us : List U}, inUsB keep us = true → ∀ u ∈ us, inU keep u
  | [], _, _, h => nomatch h
  | u :: us, h, x, hx => by
    have h' : (inUB keep u && inUsB keep us) = true := h
    rw [Bool.and_eq_true] at h'
    rcases List.mem_cons.mp hx with rfl | hx
    · exact inUB_ok h'.1
    · exact inUsB_ok h'.2 x hx
theorem inKsB_ok {keep : List Nat} : ∀ {us : List (Key × U)}, inKsB keep us = true → ∀ u ∈ us, inU keep u.2
  | [], _, _, h => nomatch h
  | u :: us, h, x, hx => by
    have h' : (inUB keep u.2 && inKsB keep us) = true := h
    rw [Bool.and_eq_true] at h'
    rcases List.mem_cons.mp hx with rfl | hx
    · exact inUB_ok h'.1
    · exact inKsB_ok h'.2 x hx
theorem inFsB_ok {keep : List Nat} : ∀ {us : List (Str × U)}, inFsB keep us = true → ∀ u ∈ us, inU keep u.2
  | [], _, _, h => nomatch h
  | u :: us, h, x, hx => by
    have h' : (inUB keep u.2 && inFsB keep us) = true := h
    rw [Bool.and_eq_true] at h'
    rcases List.mem_cons.mp hx with rfl | hx
    · exact inUB_ok h'.1
    · exact inFsB_ok h'.2 x hx
theorem inObB_ok {keep : List Nat} {o : Ob} (h : inObB keep o = true) : inOb keep o := by
  cases o with
  | lsp us => exact inUsB_ok h
  | tpp us => exact inUsB_ok h
  | dip kvs => exact inKsB_ok h
  | ins C fs => exact inFsB_ok h
  | lst ds => trivial
  | dic kvs => trivial
  | dit kvs => trivial
  | lkd kvs od => trivial
  | dead => trivial
theorem preB_ok : ∀ {n s : Nat} {ks : List Nat}, preB s n ks = true → ks = List.range' s n ++ ks.drop n
  | 0, s, ks, _ => by simp
  | n + 1, s, [], h => nomatch h
  | n + 1, s, k :: ks, h => by
    have h' : (Nat.beq k s && preB (s + 1) n ks) = true := h
    rw [Bool.and_eq_true] at h'
    have e1 := Nat.eq_of_beq_eq_true h'.1
    have e2 := preB_ok h'.2
    subst e1
    rw [List.range'_succ, List.drop_succ_cons, List.cons_append, ← e2]
theorem obsB_ok {keep : List Nat} {M : List Ob} : ∀ {is : List Nat}, obsB keep M is = true → ∀ i ∈ is, inOb keep (M.getD i .dead)
  | [], _, _, h => nomatch h
  | i :: is, h, j, hj => by
    have h' : (inObB keep (M.getD i .dead) && obsB keep M is) = true := h
    rw [Bool.and_eq_true] at h'
    rcases List.mem_cons.mp hj with rfl | hj
    · exact inObB_ok h'.1
    · exact obsB_ok h'.2 j hj
theorem keepB_ok {m0 : Nat} {keep : List Nat} {M : List Ob} (h : keepB m0 keep M = true) : (∃ r, keep = List.range m0 ++ r) ∧ keep.Nodup ∧ (∀ i ∈ keep, i < M.length) ∧ ∀ i ∈ keep, inOb keep (M.getD i .dead) := by
  unfold keepB at h
  simp only [Bool.and_eq_true] at h
  obtain ⟨⟨⟨h1, h2⟩, h3⟩, h4⟩ := h
  refine ⟨⟨keep.drop m0, ?_⟩, nodB_ok h2, allB_ok h3, obsB_ok h4⟩
  rw [List.range_eq_range']
  exact preB_ok h1
/-- a def's end -/
theorem fin_k {M0 : List Ob} {Qu : U → List Ob → Prop} {u : U} {M' : List Ob} (keep : List Nat) (h : (keepB M0.length keep M' && inUB keep u) = true)
    (q : Qu (rnU (fun n => keep.idxOf n) u) (keep.map fun i => rnO (fun n => keep.idxOf n) (M'.getD i .dead))) : Fin' M0 Qu u M' := by
  rw [Bool.and_eq_true] at h
  obtain ⟨⟨r, e⟩, h2, h3, h4⟩ := keepB_ok h.1
  exact .inr ⟨keep, r, e, h2, h3, inUB_ok h.2, h4, q⟩
theorem keep_core {w w' : Wd} {M M' : List Ob} {H H' : Hp} {keep rr : List Nat} (h : Hold w M H) (s : Step w H w' H') (h' : Hold w' M' H') (ek : keep = List.range M.length ++ rr) (nd : keep.Nodup) (lt : ∀ i ∈ keep, i < M'.length) (ko : ∀ i ∈ keep, inOb keep (M'.getD i .dead)) :
    Step w H ⟨w'.F, keep.map fun i => w'.th.getD i 0⟩ H' ∧ Hold ⟨w'.F, keep.map fun i => w'.th.getD i 0⟩ (keep.map fun i => rnO (fun n => keep.idxOf n) (M'.getD i .dead)) H' := by
  obtain ⟨F', th'⟩ := w'
  obtain ⟨t, et, ht⟩ := s.th
  have et' : th' = w.th ++ t := et
  have hl' : th'.length = M'.length := h'.len
  have eold : (List.range M.length).map (fun i => th'.getD i 0) = w.th := by
    refine List.ext_getElem? fun i => ?_
    rw [List.getElem?_map]
    by_cases hi : i < M.length
    · have hi' : i < w.th.length := by rw [h.len]; exact hi
      rw [List.getElem?_range hi]
      show some (th'.getD i 0) = _
      rw [et', List.getD_eq_getElem?_getD, List.getElem?_append_left hi', List.getElem?_eq_getElem hi']; rfl
    · rw [List.getElem?_eq_none (by simpa using hi), List.getElem?_eq_none (by rw [h.len]; omega)]; rfl
  have inj : ∀ i ∈ keep, ∀ j ∈ keep, th'.getD i 0 = th'.getD j 0 → i = j := fun i hi j hj e => by
    have li : i < th'.length := by rw [hl']; exact lt i hi
    have lj : j < th'.length := by rw [hl']; exact lt j hj
    have e' : th'[i] = th'[j] := by
      rw [List.getD_eq_getElem?_getD, List.getD_eq_getElem?_getD, List.getElem?_eq_getElem li, List.getElem?_eq_getElem lj] at e
      exact e
    apply Classical.byContradiction
    intro ne
    rcases Nat.lt_or_gt_of_ne ne with q | q
    · exact List.pairwise_iff_getElem.mp (List.nodup_iff_pairwise_ne.mp h'.nd) i j li lj q e'
    · exact List.pairwise_iff_getElem.mp (List.nodup_iff_pairwise_ne.mp h'.nd) j i lj li q e'.symm
  refine ⟨⟨s.F, ⟨rr.map fun i => th'.getD i 0, ?_, fun a ha => ?_⟩, s.fr, s.own⟩, ⟨?_, ?_, h'.sub, fun n a b e1 e2 => ?_⟩⟩
  · show keep.map _ = _
    rw [ek, List.map_append, eold]
  · obtain ⟨i, hi, rfl⟩ := List.mem_map.mp ha
    have hik : i ∈ keep := by rw [ek]; exact List.mem_append_right _ hi
    have hge : M.length ≤ i := by
      have n2 := nd
      rw [ek] at n2
      apply Classical.byContradiction
      intro hlt
      exact (List.nodup_append.mp n2).2.2 i (List.mem_range.mpr (by omega)) i hi rfl
    have li : i < th'.length := by rw [hl']; exact lt i hik
    apply ht
    rw [List.getD_eq_getElem?_getD, et', List.getElem?_append_right (by rw [h.len]; exact hge)]
    have l2 : i - w.th.length < t.length := by rw [et', List.length_append] at li; rw [h.len] at li ⊢; omega
    rw [List.getElem?_eq_getElem l2]
    exact List.getElem_mem l2
  · show (keep.map _).length = (keep.map _).length
    rw [List.length_map, List.length_map]
  · show (keep.map _).Nodup
    refine List.pairwise_map.mpr (List.Pairwise.imp_of_mem (fun {i j} hi hj ne e => ne (inj i hi j hj e)) nd)
  · have e1' : (keep.map fun i => th'.getD i 0)[n]? = some a := e1
    rw [List.getElem?_map] at e1' e2
    cases ei : keep[n]? with
    | none => rw [ei] at e1'; cases e1'
    | some i =>
      rw [ei] at e1' e2
      have hik : i ∈ keep := List.mem_of_getElem? ei
      have li : i < th'.length := by rw [hl']; exact lt i hik
      have lm : i < M'.length := lt i hik
      have ea : th'[i]? = some a := by
        have z : th'.getD i 0 = a := Option.some.inj e1'
        rw [List.getD_eq_getElem?_getD, List.getElem?_eq_getElem li] at z
        rw [List.getElem?_eq_getElem li]; exact congrArg some z
      have eb : rnO (fun n => keep.idxOf n) (M'.getD i .dead) = b := Option.some.inj e2
      have hM : M'[i]? = some (M'.getD i .dead) := by rw [List.getD_eq_getElem?_getD, List.getElem?_eq_getElem lm]; rfl
      obtain ⟨ob, e3, e4⟩ := h'.cell i a _ ea hM
      refine ⟨ob, e3, ?_⟩
      rcases e4 with e4 | ⟨e4, e5⟩
      · left; rw [← eb, e4]; rfl
      · right; rw [← eb]; exact ⟨e4, RO.keep (F := F') (th := th') e5 (ko i hik)⟩
def keepP (keep : List Nat) : Option U → Option U
  | some (.p n) => if memB n keep = true then some (.p (keep.idxOf n)) else none
  | x => x
theorem env_keep {F : Hp} {th : List Addr} {σ : L2.St} {ρ : Rho} {keep : List Nat} (e : Env ⟨F, th⟩ σ ρ) : Env ⟨F, keep.map fun i => th.getD i 0⟩ σ (ρ.map (keepP keep)) := by
  refine ⟨by rw [List.length_map]; exact e.len, fun i u h => ?_⟩
  rw [List.getElem?_map] at h
  cases q : ρ[i]? with
  | none => rw [q] at h; cases h
  | some x =>
    rw [q] at h
    have h' : keepP keep x = some u := Option.some.inj h
    cases x with
    | none => cases h'
    | some x =>
      obtain ⟨v, hv, r⟩ := e.at_ i x q
      cases x with
      | p n =>
        simp only [keepP] at h'
        split at h'
        · rename_i hm
          cases h'
          exact ⟨v, hv, RU.keep r (memB_ok hm)⟩
        · cases h'
      | d d => cases h'; exact ⟨v, hv, r⟩
      | v x => cases h'; exact ⟨v, hv, r⟩
      | s K ns => cases h'; exact ⟨v, hv, r⟩
/-- the turn of a loop ends: cells are dropped -/
def Gc (m0 : Nat) (P : Rho → List Ob → Prop) (ρ : Rho) (M : List Ob) : Prop := ∃ keep : List Nat, keepB m0 keep M = true ∧ P (ρ.map (keepP keep)) (keep.map fun i => rnO (fun n => keep.idxOf n) (M.getD i .dead))
def wLoopG (m0 : Nat) (G : List Ob → Prop) (wg : WG) (wb : WS) (De : DEnds) : List U → Rho → List Ob → Prop
  | [], ρ, M => G M ∧ De.nx ρ M
  | u :: us, ρ, M => G M ∧ wg u ρ M fun ρ1 M1 => wb { De with nx := Gc m0 (wLoopG m0 G wg wb De us), ct := Gc m0 (wLoopG m0 G wg wb De us), bk := De.nx } ρ1 M1
def wForG (ww : WI) (wg : WG) (wb : WS) : WS := fun De ρ M => ww ρ M fun us G M1 => wLoopG M1.length G wg wb De us ρ M1
theorem wLoopG_G {m0 : Nat} {G : List Ob → Prop} {wg : WG} {wb : WS} {De : DEnds} : ∀ {us : List U} {ρ : Rho} {M : List Ob}, wLoopG m0 G wg wb De us ρ M → G M
  | [], _, _, h => h.1
  | _ :: _, _, _, h => h.1
theorem ls_forG {wi : TI} {g : TG} {tb : TS} {ww : WI} {wg : WG} {wb : WS} (hi : LI wi ww) (hg : LG g wg) (hb : LS tb wb) : LS (tFor wi g tb) (wForG ww wg wb) := fun w M H σ ρ De E h e hq o => by
  refine hi h e hq fun us G M1 J w1 H1 s1 h1 j q => ?_
  refine ⟨fun i m σ' H' => m = us.length - i ∧ ∃ w' M' ρ', Step w1 H1 w' H' ∧ Hold w' M' H' ∧ Env w' σ' ρ' ∧ wLoopG M1.length G wg wb De (us.drop i) ρ' M', ⟨us.length, by simp, w1, M1, ρ, Step.refl _ _, h1, e.grow s1.grow, q⟩, ?_⟩
  rintro i m σ' H' ⟨hm, w', M', ρ', s', h', e', q'⟩
  by_cases hi' : i < us.length
  · right
    have hG := wLoopG_G q'
    rw [List.drop_eq_getElem_cons hi'] at q'
    refine ⟨j.go i s'.grow h' hG hi', fun σ2 H2 => ∃ w2 M2 ρ2, Step w1 H1 w2 H2 ∧ Hold w2 M2 H2 ∧ Env w2 σ2 ρ2 ∧ wLoopG M1.length G wg wb De (us.drop (i + 1)) ρ2 M2, ?_, fun v H2 y => ?_⟩
    · rintro σ2 H2 ⟨w2, M2, ρ2, z⟩
      exact ⟨us.length - (i + 1), by omega, rfl, w2, M2, ρ2, z⟩
    · obtain ⟨w2, s2, h2, r2⟩ := j.yld i s'.grow h' hG (List.getElem?_eq_getElem hi') y
      have s3 := s'.trans h' s2
      refine hg h2 (e'.grow s2.grow) r2 q'.2 fun ρ3 M3 σ3 w3 H3 s4 h3 e3 q3 => ?_
      have s5 := s3.trans h2 s4
      have on := (o.nx.trans s1 h1).trans s5 h3
      refine hb h3 e3 q3 ⟨?_, (o.rt.trans s1 h1).trans s5 h3, on, ?_⟩
      all_goals
        intro ρ4 M4 σ4 w4 H4 s6 h4 e4 q4
        obtain ⟨keep, hk, q4⟩ := q4
        obtain ⟨⟨r, ek⟩, k2, k3, k4⟩ := keepB_ok hk
        obtain ⟨s7, h7⟩ := keep_core h1 (s5.trans h3 s6) h4 ek k2 k3 k4
        exact ⟨_, _, _, s7, h7, env_keep e4, q4⟩
  · left
    rw [List.drop_of_length_le (by omega)] at q'
    exact ⟨j.stop i s'.grow h' q'.1 (by omega), (o.nx.trans s1 h1) _ _ _ _ _ s' h' e' q'.2⟩
theorem wLoopG_rec {m0 : Nat} {G : List Ob → Prop} {wg : WG} {wb : WS} {De : DEnds} (I : List U → Rho → List Ob → Prop) (h0 : ∀ ρ M, I [] ρ M → G M ∧ De.nx ρ M)
    (h1 : ∀ u us, (∀ ρ M, I us ρ M → wLoopG m0 G wg wb De us ρ M) → ∀ ρ M, I (u :: us) ρ M → G M ∧ wg u ρ M fun ρ1 M1 => wb { De with nx := Gc m0 (wLoopG m0 G wg wb De us), ct := Gc m0 (wLoopG m0 G wg wb De us), bk := De.nx } ρ1 M1) :
    ∀ us ρ M, I us ρ M → wLoopG m0 G wg wb De us ρ M := by
  intro us
  induction us with
  | nil => intro ρ M h; exact h0 ρ M h
  | cons u us ih => intro ρ M h; exact h1 u us ih ρ M h
/-! ### the handed cells are said by the reading -/
def wEqOwnX (C : Addr) (d : DSp) : R2' := fun x y M Q => ∃ is, wEqOwn C is d x y M Q
theorem lr_eqOwnX {C : Addr} {d : DSp} {E : XK} : LR (rOwn C (liftSp d) E) (wEqOwnX C d) := fun w M H x y vx vy Qu Q h rx ry ⟨_, hq⟩ o => lr_eqOwn h rx ry hq o
def wNeOwnX (C : Addr) (d : DSp) : R2' := fun x y M Q => ∃ is, wNeOwn C is d x y M Q
theorem lr_neOwnX {C : Addr} {d : DSp} {E : XK} : LR (rNeOwn C (liftSp d) E) (wNeOwnX C d) := fun w M H x y vx vy Qu Q h rx ry ⟨_, hq⟩ o => lr_neOwn h rx ry hq o
def wMethX (C : Addr) (m : Str) (d : DSp) (dv : List PyData) (we : WE) (wr : WA) : WE := fun ρ M Q => ∃ is, wMeth C m is d dv we wr ρ M Q
theorem le_methX {tr : TA} {wr : WA} {te : TE} {we : WE} {C : Addr} {m : Str} {d : DSp} {dvs : List V} {dv : List PyData} {E : XK} (hd : ∀ w : Wd, RUs w (dv.map U.d) dvs) (he : LE te we) (hr : LA tr wr) : LE (tMeth C m (liftSp d) dvs E te tr) (wMethX C m d dv we wr) := fun _ _ _ _ _ _ _ h e ⟨_, hq⟩ o => le_meth hd he hr h e hq o
def wCallQX (d : DSp) (dv : List PyData) (wr : WA) : WE := fun ρ M Q => ∃ is, wCallQ is d dv wr ρ M Q
theorem le_callQX {d : DSp} {dvs : List V} {dv : List PyData} {E : XK} {tr : TA} {wr : WA} (hd : ∀ w : Wd, RUs w (dv.map U.d) dvs) (hr : LA tr wr) : LE (tCall (liftSp d) dvs E tr) (wCallQX d dv wr) := fun _ _ _ _ _ _ _ h e ⟨_, hq⟩ o => le_callQ hd hr h e hq o
/-! ### Trim by a look -/
theorem okOb_range {m : Nat} {o : Ob} (h : inOb (List.range m) o) : okOb m o := by
  have u : ∀ {u : U}, inU (List.range m) u → okU m u := fun {u} h => by
    cases u with
    | p n => exact List.mem_range.mp h
    | d d => trivial
    | v x => trivial
    | s K ns => trivial
  cases o with
  | lsp us => exact fun x hx => u (h x hx)
  | tpp us => exact fun x hx => u (h x hx)
  | dip kvs => exact fun x hx => u (h x hx)
  | ins C fs => exact fun x hx => u (h x hx)
  | lst ds => trivial
  | dic kvs => trivial
  | dit kvs => trivial
  | lkd kvs od => trivial
  | dead => trivial
def trimB (m : Nat) (M : List Ob) : Bool := Nat.ble m M.length && obsB (List.range m) M (List.range m)
theorem trim_k {M0 : List Ob} {Q : Rho → List Ob → Prop} {ρ : Rho} {M : List Ob} (h : trimB M0.length M = true) (q : Q (ρ.map (dropP M0.length)) (M.take M0.length)) : Trim M0 Q ρ M := by
  unfold trimB at h
  rw [Bool.and_eq_true] at h
  refine ⟨Nat.le_of_ble_eq_true h.1, fun o ho => ?_, q⟩
  obtain ⟨i, hi, e⟩ := List.getElem_of_mem ho
  rw [List.length_take] at hi
  have hm : i < M.length := by omega
  have := obsB_ok h.2 i (List.mem_range.mpr (by omega))
  rw [List.getD_eq_getElem?_getD, List.getElem?_eq_getElem hm] at this
  rw [List.getElem_take] at e
  rw [← e]
  exact okOb_range this
/-! ### a call that leaves the handed cells as they were and makes new ones -/
theorem wback_more : ∀ (is : List Nat) (M X : List Ob), wback M is ((is.map fun i => M.getD i .dead) ++ X) = M ++ X
  | [], M, X => wback_nil M X
  | i :: is, M, X => by
    have e : M.set i (M.getD i .dead) = M := by
      by_cases h : i < M.length
      · rw [List.getD_eq_getElem?_getD, List.getElem?_eq_getElem h]; exact List.set_getElem_self h
      · rw [List.set_eq_of_length_le (by omega)]
    show wback (M.set i (M.getD i .dead)) is ((is.map fun i => M.getD i .dead) ++ X) = M ++ X
    rw [e]; exact wback_more is M X
def cN (is : List Nat) (d : DSp) (dv : List PyData) (us : List U) (M1 : List Ob) (Q : U → List Ob → Prop) : Prop := nodB is = true ∧ allB is M1.length = true ∧ (us.map (rnU (inN is))).map (rnU (outN is M1.length)) = us ∧
  (is.map fun i => rnO (inN is) (M1.getD i .dead)).map (rnO (outN is M1.length)) = (is.map fun i => M1.getD i .dead) ∧
  d (us.map (rnU (inN is)) ++ dv.map U.d) (is.map fun i => rnO (inN is) (M1.getD i .dead)) fun u Mc => ∃ new, Mc = (is.map fun i => rnO (inN is) (M1.getD i .dead)) ++ new ∧ Q (rnU (outN is M1.length) u) (M1 ++ new.map (rnO (outN is M1.length)))
theorem cN_ok {is : List Nat} {d : DSp} {dvs : List V} {dv : List PyData} {E : XK} {w1 : Wd} {M1 : List Ob} {H1 : Hp} {us : List U} {vs : List V} {Qu : U → List Ob → Prop} {Q : VK} (hd : ∀ w : Wd, RUs w (dv.map U.d) dvs) (h1 : Hold w1 M1 H1) (r1 : RUs w1 us vs) (q1 : cN is d dv us M1 Qu) (o : Out RU w1 H1 Qu Q) : liftSp d (vs ++ dvs) H1 Q E := by
  obtain ⟨nd', hi', hu, hc, q⟩ := q1
  have nd := nodB_ok nd'
  have hi := allB_ok hi'
  have hl : ∀ i ∈ is, i < w1.th.length := fun i m => by rw [h1.len]; exact hi i m
  refine ⟨_, _, _, _, call_into h1 nd hi hc, ?_, q, fun u Mc v w2 H2 s2 h2 r2 q2 => ?_⟩
  · refine rus_app ?_ (hd _)
    rw [← hu] at r1
    exact mapP2 r1 fun a c r => by
      rw [← h1.len] at r
      exact RU.into hl r
  · obtain ⟨new, eM, q2⟩ := q2
    subst eM
    obtain ⟨t, ew, h3, s3⟩ := call_back h1 nd hi s2 h2
    rw [List.map_append, hc, wback_more] at h3
    refine o _ _ _ _ _ s3 h3 ?_ q2
    rw [ew] at r2
    rw [← h1.len]
    exact RU.back hl r2
def wCallN (is : List Nat) (d : DSp) (dv : List PyData) (wr : WA) : WE := fun ρ M Q => wr ρ M fun us M1 => cN is d dv us M1 Q
theorem le_callN {is : List Nat} {d : DSp} {dvs : List V} {dv : List PyData} {E : XK} {tr : TA} {wr : WA} (hd : ∀ w : Wd, RUs w (dv.map U.d) dvs) (hr : LA tr wr) : LE (tCall (liftSp d) dvs E tr) (wCallN is d dv wr) := fun _ _ _ _ _ _ _ h e hq o =>
  hr h e hq fun us M1 vs w1 H1 s1 h1 r1 q1 => by
    obtain ⟨w, M, us', Qu, hw, r, q, o'⟩ := cN_ok (E := E) hd h1 r1 q1 (o.trans s1 h1)
    exact ⟨w, M, us', Qu, hw, r, q, o'⟩
def wCallNX (d : DSp) (dv : List PyData) (wr : WA) : WE := fun ρ M Q => ∃ is, wCallN is d dv wr ρ M Q
theorem le_callNX {d : DSp} {dvs : List V} {dv : List PyData} {E : XK} {tr : TA} {wr : WA} (hd : ∀ w : Wd, RUs w (dv.map U.d) dvs) (hr : LA tr wr) : LE (tCall (liftSp d) dvs E tr) (wCallNX d dv wr) := fun _ _ _ _ _ _ _ h e ⟨_, hq⟩ o => le_callN hd hr h e hq o
def wEqOwnN (C : Addr) (is : List Nat) (d : DSp) : R2' := fun x y M Q => ∃ n fs m gs, x = .p n ∧ y = .p m ∧ M[n]? = some (.ins C fs) ∧ M[m]? = some (.ins C gs) ∧ cN is d [] [x, y] M fun u M' => ∃ t, u = .d (.bool t) ∧ Q (.d (.bool t)) M'
theorem lr_eqOwnN {C : Addr} {is : List Nat} {d : DSp} {E : XK} : LR (rOwn C (liftSp d) E) (wEqOwnN C is d) := fun w M H x y vx vy Qu Q h rx ry hq o => by
  obtain ⟨n, fs, m, gs, rfl, rfl, hm, hm2, q⟩ := hq
  obtain ⟨a, ob, rfl, ha, ho, dx, gs1, rfl, r⟩ := cell_at h rx hm (fun q => nomatch q)
  obtain ⟨b, ob2, rfl, hb, ho2, dy, gs2, rfl, r2⟩ := cell_at h ry hm2 (fun q => nomatch q)
  refine ⟨a, b, dx, dy, gs1, gs2, rfl, rfl, ho, ho2, ?_⟩
  have := cN_ok (dvs := []) (dv := []) (E := E) (us := [.p n, .p m]) (vs := [.ref a, .ref b]) (fun _ => .nil) h (.cons rx (.cons ry .nil)) q (Q := fun v H' => ∃ t, v = .bl t ∧ Q (.bl t) H') fun u M' v w' H' s' h' r' q' => by
    obtain ⟨t, rfl, q'⟩ := q'
    have e : v = .bl t := by cases (show Rp w'.F (.bool t) v from r'); rfl
    subst e
    exact ⟨t, rfl, o _ _ _ _ _ s' h' r' q'⟩
  exact this
def wNeOwnN (C : Addr) (is : List Nat) (d : DSp) : R2' := fun x y M Q => ∃ n fs m gs, x = .p n ∧ y = .p m ∧ M[n]? = some (.ins C fs) ∧ M[m]? = some (.ins C gs) ∧ cN is d [] [x, y] M fun u M' => ∃ t, u = .d (.bool t) ∧ Q (.d (.bool (!t))) M'
theorem lr_neOwnN {C : Addr} {is : List Nat} {d : DSp} {E : XK} : LR (rNeOwn C (liftSp d) E) (wNeOwnN C is d) := fun w M H x y vx vy Qu Q h rx ry hq o => by
  obtain ⟨n, fs, m, gs, rfl, rfl, hm, hm2, q⟩ := hq
  obtain ⟨a, ob, rfl, ha, ho, dx, gs1, rfl, r⟩ := cell_at h rx hm (fun q => nomatch q)
  obtain ⟨b, ob2, rfl, hb, ho2, dy, gs2, rfl, r2⟩ := cell_at h ry hm2 (fun q => nomatch q)
  refine ⟨a, b, dx, dy, gs1, gs2, rfl, rfl, ho, ho2, ?_⟩
  have := cN_ok (dvs := []) (dv := []) (E := E) (us := [.p n, .p m]) (vs := [.ref a, .ref b]) (fun _ => .nil) h (.cons rx (.cons ry .nil)) q (Q := fun v H' => ∃ t, v = .bl t ∧ Q (.bl (!t)) H') fun u M' v w' H' s' h' r' q' => by
    obtain ⟨t, rfl, q'⟩ := q'
    have e : v = .bl t := by cases (show Rp w'.F (.bool t) v from r'); rfl
    subst e
    exact ⟨t, rfl, o _ _ _ _ _ s' h' (RU.D (.bl _)) q'⟩
  exact this
end DL

/-! ### sum(lists, start) -/
namespace DLsum
open PySem PySem.Spec PyProof.Rows
theorem args_sum2 (a b : Value) : argsOk "sum" ⟨[a, b], []⟩ := by unfold argsOk; kernel_rfl
theorem sub_list_str : isSubtype (.type "list") (.type "str") = pure false := by rw [isSubtype_type]; kernel_rfl
theorem sub_list_bytes : isSubtype (.type "list") (.type "bytes") = pure false := by rw [isSubtype_type]; kernel_rfl
theorem sub_list_bytearray : isSubtype (.type "list") (.type "bytearray") = pure false := by rw [isSubtype_type]; kernel_rfl
section
variable {prog : Program} {w : World} {A : Around} {E : Value → Shared → Prop} {s : Shared}
theorem add_raw {l b : Addr} {vs ws : List Value} {Q : Value → Shared → Prop} (hl : s.heap.IsList l vs.toArray) (hb : s.heap.IsList b ws.toArray)
    (h : Q (.ref s.heap.objs.size) { s with heap := s.heap.push { cls := .type "list", data := .seq (vs ++ ws).toArray } })
    (hsz : vs.length + ws.length ≤ sizeLine) :
    wpAny (model prog w) A (binaryOp .Add (.ref l) (.ref b)) Q E s := by
  obtain ⟨⟨cls, dd, data, sl⟩, ho, hc, n, hd⟩ := id hl
  obtain ⟨⟨cls2, dd2, data2, sl2⟩, ho2, hc2, n2, hd2⟩ := id hb
  simp only at hc hd hc2 hd2
  subst hc hd hc2 hd2
  have e : vs.toArray ++ ws.toArray = (vs ++ ws).toArray := by simp
  refine concat_meets ⟨_, ho, rfl⟩ ⟨_, ho2, rfl⟩ noFill_list_add seq_list_add PySem.F.slot_list_add PySem.F.entry_list_add (PySem.F.args_list_add_2 _ _) (list_addW l b vs.toArray ws.toArray n n2 dd dd2 sl sl2 (by simpa using hsz)) ⟨ho, ho2, ?_⟩
  rw [e]
  exact h
theorem loop {R : Result → Shared → Prop} (hh : A.in1.handled = none) {h0 : Heap} {l S : Addr} {its : Array Value} (hl0 : h0.IsList l its) (hS0 : h0.objs.size < S) (pss : List (List Value))
    (hp : ∀ (i : Nat) (v : Value), its[i]? = some v → ∃ a ps, v = .ref a ∧ pss[i]? = some ps ∧ h0.IsList a ps.toArray) (hn : pss.length = its.size) :
    ∀ (k i : Nat) (s : Shared) (tot : Addr) (ts : List Value) (c : Nat), its.size - i = k → i ≤ its.size → s.heap.IsListIter h0.objs.size l i → (∀ b o, h0.get? b = some o → s.heap.get? b = some o) →
    s.heap.get? S = some { cls := .type "list", dict := none, data := .seq #[.ref tot] c, slots := #[] } → s.heap.IsList tot ts.toArray → tot ≠ S → tot ≠ h0.objs.size →
    ts.length + ((pss.drop i).flatten).length ≤ sizeLine →
    (k = 0 → h0.objs.size < tot ∧ ∃ n, s.heap.get? tot = some { cls := .type "list", data := .seq ts.toArray n }) →
    (∀ h' tk p n, (∀ b o, h0.get? b = some o → h'.get? b = some o) → h0.objs.size < p → h'.get? p = some { cls := .type "list", data := .seq (ts ++ (pss.drop i).flatten).toArray n } →
      R (.ok (.ret (.ref p))) { s with heap := h', toks := tk }) →
    codeAny (model prog w) A (.builtin "sum.loop" ⟨[.ref h0.objs.size, .ref S, rawInt 2, rawInt 0], []⟩) R s := by
  have hlI : l ≠ h0.objs.size := by obtain ⟨_, e, _⟩ := hl0; exact Nat.ne_of_lt (Heap.lt_size e)
  have W := Walks.list (prog := prog) (w := w) (A := A.in1) hh h0.objs.size l hlI its
  have hSI : S ≠ h0.objs.size := Nat.ne_of_gt hS0
  intro k
  induction k with
  | zero =>
    intro i s tot ts c hk hi hit hold hS ht htS htI hz hd hR
    have hin : i = its.size := by omega
    subst hin
    obtain ⟨hd1, n, hd2⟩ := hd rfl
    refine codeAny_builtin F.entry_sum_loop ?_
    rw [Around.under_plainId F.plain_sum_loop _]
    show wpAny _ A.in1 (seqItems? (.ref S) >>= _) _ _ s
    refine wpAny_bind (wpAny_seqItems hS rfl ?_)
    show wpAny _ A.in1 (tryCatch (pyNext (.ref h0.objs.size)) _ >>= _) _ _ s
    refine wpAny_bind (wpAny_tryCatch (W.done s _ _ ⟨hit, hl0.at fun o e => hold _ o e⟩ fun h' tk hk' => ?_))
    refine wpAny_pure (hR h' tk tot n (fun b o e => hk' b o (fun hm => ?_) (hold b o e)) hd1 ?_)
    · have : b = h0.objs.size := by simpa using hm
      exact absurd (Heap.lt_size e) (by rw [this]; exact Nat.lt_irrefl _)
    · rw [List.drop_eq_nil_of_le (by omega), List.flatten_nil, List.append_nil]
      exact hk' _ _ (by simpa using htI) hd2
  | succ k ih =>
    intro i s tot ts c hk hi hit hold hS ht htS htI hz hd hR
    have hlt : i < its.size := by omega
    refine codeAny_builtin F.entry_sum_loop ?_
    rw [Around.under_plainId F.plain_sum_loop _]
    show wpAny _ A.in1 (seqItems? (.ref S) >>= _) _ _ s
    refine wpAny_bind (wpAny_seqItems hS rfl ?_)
    show wpAny _ A.in1 (tryCatch (pyNext (.ref h0.objs.size)) _ >>= _) _ _ s
    refine wpAny_bind (wpAny_tryCatch (W.item i s _ _ hlt ⟨hit, hl0.at fun o e => hold _ o e⟩ fun v h' tk hP hst' hk' => ?_))
    obtain ⟨a, ps, rfl, hps, ha⟩ := hp i v hP
    have hS' := hk' S _ (by simpa using hSI) hS
    have hold' : ∀ b o, h0.get? b = some o → h'.get? b = some o := fun b o e => hk' b o (fun hm => by
      have : b = h0.objs.size := by simpa using hm
      exact absurd (Heap.lt_size e) (by rw [this]; exact Nat.lt_irrefl _)) (hold b o e)
    have ht' : h'.IsList tot ts.toArray := ht.at fun o e => hk' _ o (by simpa using htI) e
    have hdrop : pss.drop i = ps :: pss.drop (i + 1) := by
      have hi' := (List.getElem?_eq_some_iff.mp hps).1
      rw [List.drop_eq_getElem_cons hi', (List.getElem?_eq_some_iff.mp hps).2]
    rw [hdrop, List.flatten_cons, List.length_append] at hz
    show wpAny _ A.in1 ((holding [Value.ref a] (binaryOp .Add (.ref tot) (.ref a))).attempt >>= _) _ _ _
    refine wpAny_bind (wpAny_attempt (wpAny_holding (add_raw (s := { s with heap := h', toks := tk }) ht' (ha.at fun o e => hold' _ o e) ?_ (by omega))))
    show wpAny _ A.in1 (updateSeq S (fun _ => #[.ref h'.objs.size]) >>= _) _ _ _
    have hS1 : (h'.push { cls := .type "list", data := .seq (ts ++ ps).toArray }).get? S = some { cls := .type "list", dict := none, data := .seq #[.ref tot] c, slots := #[] } := Heap.get?_push_of_some _ hS'
    refine wpAny_bind (wpAny_updateSeq (s := { s with heap := h'.push { cls := .type "list", data := .seq (ts ++ ps).toArray }, toks := tk }) hS1 rfl ?_)
    have hS₂ := Heap.get?_update_self (Obj.mapSeq fun _ => #[Value.ref h'.objs.size]) hS1 rfl
    refine wpAny_bind (wpAny_letGo ?_)
    have hlast : S < h'.objs.size := Heap.lt_size hS'
    have hne2 : S ≠ h'.objs.size := Nat.ne_of_lt hlast
    have hnew : ((h'.push { cls := .type "list", data := .seq (ts ++ ps).toArray }).update S (Obj.mapSeq fun _ => #[Value.ref h'.objs.size])).get? h'.objs.size = some { cls := .type "list", data := .seq (ts ++ ps).toArray } := (Heap.get?_update_other _ _ hne2).trans (Heap.get?_push_size _ rfl)
    refine wpAny_bind (wpAny_updateSeq (s := { s with heap := (h'.push { cls := .type "list", data := .seq (ts ++ ps).toArray }).update S (Obj.mapSeq fun _ => #[Value.ref h'.objs.size]), toks := tk }) hS₂ rfl (wpAny_pure ⟨plainId_quiet F.plain_sum_loop _, ?_⟩))
    have hnew2 : (((h'.push { cls := .type "list", data := .seq (ts ++ ps).toArray }).update S (Obj.mapSeq fun _ => #[Value.ref h'.objs.size])).update S (Obj.mapSeq fun _ => #[Value.ref h'.objs.size])).get? h'.objs.size = some { cls := .type "list", data := .seq (ts ++ ps).toArray } := (Heap.get?_update_other _ _ hne2).trans hnew
    refine ih (i + 1) { s with heap := ((h'.push { cls := .type "list", data := .seq (ts ++ ps).toArray }).update S (Obj.mapSeq fun _ => #[Value.ref h'.objs.size])).update S (Obj.mapSeq fun _ => #[Value.ref h'.objs.size]), toks := tk } h'.objs.size (ts ++ ps) _ (by omega) hlt ?_ (fun b o e => ?_) (Heap.get?_update_self _ hS₂ rfl) ⟨_, hnew2, rfl, _, rfl⟩ (Ne.symm hne2) (Nat.ne_of_gt (Nat.lt_trans hS0 hlast)) (by rw [List.length_append]; omega) (fun _ => ⟨Nat.lt_trans hS0 hlast, _, hnew2⟩) fun h'' tk'' p n a1 a2 a3 => ?_
    · refine hst'.1.at fun o e => ?_
      exact (Heap.get?_update_other _ _ hSI).trans ((Heap.get?_update_other _ _ hSI).trans (Heap.get?_push_of_some _ e))
    · have hb : S ≠ b := Nat.ne_of_gt (Nat.lt_trans (Heap.lt_size e) hS0)
      exact (Heap.get?_update_other _ _ hb).trans ((Heap.get?_update_other _ _ hb).trans (Heap.get?_push_of_some _ (hold' b o e)))
    · refine hR h'' tk'' p n a1 a2 ?_
      rw [a3, hdrop, List.flatten_cons, List.append_assoc]
theorem sum_lists (hh : A.handled = none) {l b : Addr} {its : List Value} {bs : List Value} {pss : List (List Value)} {Q : Value → Shared → Prop} (hl : s.heap.IsList l its.toArray) (hb : s.heap.IsList b bs.toArray)
    (hp : ∀ (i : Nat) (v : Value), its[i]? = some v → ∃ a ps, v = .ref a ∧ pss[i]? = some ps ∧ s.heap.IsList a ps.toArray) (hn : pss.length = its.length) (hne : 0 < its.length) (hz : bs.length + pss.flatten.length ≤ sizeLine)
    (h : ∀ h' tk p n, (∀ b o, s.heap.get? b = some o → h'.get? b = some o) → s.heap.objs.size ≤ p → h'.get? p = some { cls := .type "list", data := .seq (bs ++ pss.flatten).toArray n } → Q (.ref p) { s with heap := h', toks := tk }) :
    wpAny (model prog w) A (call (.builtin "sum") [.ref l, .ref b]) Q E s := by
  have hlt : l < s.heap.objs.size := by obtain ⟨_, e, _⟩ := hl; exact Heap.lt_size e
  have hbt : b < s.heap.objs.size := by obtain ⟨_, e, _⟩ := hb; exact Heap.lt_size e
  refine call_function_tree F.kind_sum F.plain_sum F.entry_sum (args_sum2 _ _) ?_
  unfold Builtin.«sum»
  simp only [List.length_cons, List.length_nil]
  rw [if_neg (by decide)]
  refine wpAny_bind (wpAny_of_eq (show Builtin.Builtins.bindParams "sum" ["start"] 0 ⟨[.ref b], []⟩ = pure [some (.ref b)] from rfl) ?_)
  refine wpAny_bind (wpAny_pyIter_list hl ?_)
  refine wpAny_bind (wpAny_pure ?_)
  simp only [List.forIn_cons, List.forIn_nil]
  have hbT : ({ s with heap := s.heap.push { cls := .type "list_iterator", data := .fields #[.ref l, .int 0 0] } } : Shared).TypeIs (.ref b) "list" := Heap.IsList.typeIs (s := { s with heap := s.heap.push { cls := .type "list_iterator", data := .fields #[.ref l, .int 0 0] } }) (hb.push _)
  refine wpAny_bind (wpAny_bind (wpAny_bind (wpAny_isInstance (T := "list") (b := false) hbT sub_list_str ?_)))
  simp only [Bool.false_eq_true, if_false]
  refine wpAny_pure (wpAny_bind (wpAny_bind (wpAny_isInstance (T := "list") (b := false) hbT sub_list_bytes ?_)))
  simp only [Bool.false_eq_true, if_false]
  refine wpAny_pure (wpAny_bind (wpAny_bind (wpAny_isInstance (T := "list") (b := false) hbT sub_list_bytearray ?_)))
  simp only [Bool.false_eq_true, if_false]
  refine wpAny_pure (wpAny_pure ?_)
  refine wpAny_bind (wpAny_newObj_type ?_)
  have hs1 : (s.heap.push { cls := .type "list_iterator", data := .fields #[.ref l, .int 0 0] }).objs.size = s.heap.objs.size + 1 := Heap.size_push ..
  refine wpAny_pure ⟨plainId_quiet F.plain_sum_loop _, ?_⟩
  refine loop (h0 := s.heap) (S := (s.heap.push { cls := .type "list_iterator", data := .fields #[.ref l, .int 0 0] }).objs.size) (its := its.toArray) hh hl (by omega) pss (fun i v e => hp i v (by simpa using e)) (by simpa using hn) its.length 0 _ b bs 0 (by simp) (Nat.zero_le _) ?_ (fun c o e => Heap.get?_push_of_some _ (Heap.get?_push_of_some _ e)) (Heap.get?_push_size _ rfl) ((hb.push _).push _) (Nat.ne_of_lt (Nat.lt_of_lt_of_le hbt (by omega))) (Nat.ne_of_lt hbt) (by simpa using hz) (fun e => absurd e (by omega)) fun h' tk p n a1 a2 a3 => ?_
  · exact ⟨_, Heap.get?_push_of_some _ (Heap.get?_push_size _ rfl), rfl, rfl⟩
  · exact h h' tk p n a1 (by omega) (by rw [a3]; simp)
end
end DLsum
namespace DL
open PySem L2 PySem.Spec PyProof.Rows
def rSumL (K : PySem.W.Frag) : List V → Hp → VK → Prop := fun vs H Q => ∃ (a b : Addr) (as : List Addr) (xss : List (List V)) (ys : List V), vs = [.ref a, .ref b] ∧ SqL K H a (as.map V.ref) ∧ Paired (fun p xs => SqL K H p xs) as xss ∧ SqL K H b ys ∧ 0 < as.length ∧
  ys.length + xss.flatten.length ≤ sizeLine ∧ ∀ p, H p = none → Q (.ref p) (upd H p (.lst (ys ++ xss.flatten)))
theorem vals_flat {R : List V → List Value → Prop} : True := trivial
theorem cr_sumL {X : Cx} (hc : X.calm = true) : CallR X (.builtin "sum") (rSumL X.K) := by
  intro pins s σ H vs us Q I r h
  obtain ⟨a, b, as, xss, ys, rfl, hs, hps, hb, hne, hz, q⟩ := h
  obtain ⟨its, rv, hl, hx1⟩ := I.list hs
  obtain ⟨bs, rvb, hlb, hx2⟩ := I.list hb
  clear hx1 hx2
  have e : us = [.ref a, .ref b] := by
    cases r with
    | cons r t =>
      cases r
      rw [Vals.ref1 t]
  subst e
  have hits : its = as.map Value.ref := by
    clear hs hl hne hps hz q
    induction as generalizing its with
    | nil => cases rv; rfl
    | cons x as ih =>
      cases rv with
      | cons r t => cases r; rw [ih _ t]; rfl
  subst hits
  have hpp : ∃ pss : List (List Value), Paired (fun p ps => s.heap.IsList p ps.toArray) as pss ∧ Vals xss.flatten pss.flatten ∧ pss.length = as.length := by
    clear hs hl hne hz q rv
    induction hps with
    | nil => exact ⟨[], .nil, .nil, rfl⟩
    | cons h t ih =>
      obtain ⟨pss, p1, p2, p3⟩ := ih
      obtain ⟨ps, v, hq, _⟩ := I.list h
      exact ⟨ps :: pss, .cons hq.isList p1, by rw [List.flatten_cons, List.flatten_cons]; exact Vals.append v p2, by simp [p3]⟩
  obtain ⟨pss, p1, p2, p3⟩ := hpp
  have hlv : Vals (ys ++ xss.flatten) (bs ++ pss.flatten) := Vals.append rvb p2
  refine DLsum.sum_lists (I.ok.hd hc) hl.isList hlb.isList (pss := pss) (fun i v hv => ?_) (by rw [p3, List.length_map]) (by rw [List.length_map]; exact hne) (by rw [← List.length_append, ← Paired.length hlv, List.length_append]; exact hz) fun h' tk p n a1 a2 a3 => ?_
  · clear hl hlb hne hz q rv p2 hlv hs hps
    induction p1 generalizing i with
    | nil => simp at hv
    | cons h t ih =>
      cases i with
      | zero => simp at hv; exact ⟨_, _, hv.symm, rfl, h⟩
      | succ i =>
        obtain ⟨a', ps, q1, q2, q3⟩ := ih (by simpa using p3) i (by simpa using hv)
        exact ⟨a', ps, q1, by simpa using q2, q3⟩
  · exact ⟨.ref _, upd H p (.lst (ys ++ xss.flatten)), I.laid (t' := tk) a1 a2 ⟨by rw [List.length_append]; exact hz, bs ++ pss.flatten, n, hlv, a3⟩, rfl, q p (I.hok.fresh a2)⟩
theorem x_sumL {X : Cx} {K : PySem.W.Frag} (h : X.K = K) (hc : X.calm = true) : CallR X (.builtin "sum") (rSumL K) := h ▸ cr_sumL hc
def wSumL : List U → List Ob → (U → List Ob → Prop) → Prop := fun us M Q => ∃ (u v : U) (dss : List (List PyData)) (ys : List PyData), us = [u, v] ∧ view M u = some (.list (dss.map PyData.list)) ∧ view M v = some (.list ys) ∧ 0 < dss.length ∧ ys.length + dss.flatten.length ≤ sizeLine ∧ Q (.d (.list (ys ++ dss.flatten))) M
theorem lists_rep {K : PySem.W.Frag} {F H : Hp} (e : Same F H) : ∀ {dss : List (List PyData)} {vs : List V}, RpL F (dss.map PyData.list) vs → ∃ (as : List Addr) (xss : List (List V)), vs = as.map V.ref ∧ Paired (fun p xs => SqL K H p xs) as xss ∧ RpL F dss.flatten xss.flatten ∧ as.length = dss.length
  | [], _, .nil => ⟨[], [], rfl, .nil, .nil, rfl⟩
  | ds :: dss, _, .cons h t => by
    obtain ⟨as, xss, rfl, h1, h2, h3⟩ := lists_rep (K := K) e t
    cases h with
    | lst ha r => exact ⟨_ :: as, _ :: xss, rfl, .cons (SqL.of (e _ _ ha)) h1, by rw [List.flatten_cons, List.flatten_cons]; exact RpL.append r h2, by simp [h3]⟩
theorem lc_sumL {K : PySem.W.Frag} : LC (rSumL K) wSumL := fun w M H x vx Qu Q h rx hq o => by
  obtain ⟨u, v, dss, ys, rfl, e1, e2, hne, hz, q⟩ := hq
  obtain ⟨a, b, rfl, ra, rb⟩ : ∃ a b, vx = [a, b] ∧ RU w u a ∧ RU w v b := by
    cases rx with
    | cons r1 t =>
      cases t with
      | cons r2 t => cases t; exact ⟨_, _, rfl, r1, r2⟩
  obtain ⟨p, vs, rfl, hp, r1⟩ := view_ok h ra e1
  obtain ⟨p2, vs2, rfl, hp2, r2⟩ := view_ok h rb e2
  obtain ⟨as, xss, rfl, h1, h2, h3⟩ := lists_rep (K := K) h.sub r1
  have hr := RpL.append r2 h2
  refine ⟨p, p2, as, xss, vs2, rfl, SqL.of hp, h1, SqL.of hp2, by rw [h3]; exact hne, ?_, fun l hl => ?_⟩
  · rw [← List.length_append, ← RpL.length hr, List.length_append]; exact hz
  · exact o _ _ _ _ _ (Step.put h hl) (h.put hl) (RU.D (.lst Wd.putF (RpL.mono (same_put (h.newF hl)) hr))) q
end DL


set_option Elab.async false
set_option linter.all false
set_option maxRecDepth 100000
set_option maxHeartbeats 8000000
set_option autoImplicit false
namespace K17
open PySem L2 DL
def top (i : Nat) : Stmt := PySem.Challenge.pw_coverrows_k17_whole_fits_mean_the_node.main.body.getD i (.Pass ⟨0, 0, 0, 0⟩)
structure Bln (mg : Str → Option Value) : Prop where
  abs_ : mg "abs" = none
  len_ : mg "len" = none
  max_ : mg "max" = none
  min_ : mg "min" = none
  int_ : mg "int" = none
  list_ : mg "list" = none
  tuple_ : mg "tuple" = none
  range_ : mg "range" = none
  zip_ : mg "zip" = none
  isinstance_ : mg "isinstance" = none
  all_ : mg "all" = none
  str_ : mg "str" = none
  dict_ : mg "dict" = none
abbrev wr_DEEDS : List Str := ["put", "set"]
structure Gln (w : World) (K : PySem.W.Frag) (mg : Str → Option Value) : Prop where
  CELLS : ∃ t, mg "CELLS" = some (.int 64 t)
  DEEDS : ∃ a, mg "DEEDS" = some (.ref a) ∧ WrT K a wr_DEEDS
  MOST_WORD : ∃ t, mg "MOST_WORD" = some (.int 65535 t)
  WORDS : ∃ t, mg "WORDS" = some (.int 65536 t)
structure Tc_State (K : PySem.W.Frag) (mg : Str → Option Value) (C : Addr) : Prop where
  cl : Cls K C
  mgC : mg "State" = some (.ref C)
  n_cells : NoAttr K C "cells"
  n_named : NoAttr K C "named"
  isC : C8.InsC K C
  ne : PySem.W.findIn K (.ref C) "__ne__" = some (some (.builtin "object.__ne__"))
theorem len_ok {n : Nat} (h : Nat.ble n sizeLine = true) : n ≤ sizeLine := Nat.le_of_ble_eq_true h
theorem len_lt {n : Nat} (h : Nat.ble (n + 1) sizeLine = true) : n < sizeLine := Nat.le_of_ble_eq_true h
theorem lt_1k {n : Nat} (h : Nat.ble (n + 1) 1000 = true) : n < 1000 := Nat.le_of_ble_eq_true h
theorem ix_l {ds : List PyData} {i : Int} {d : PyData} (h : atI ds i = some d) : ixD (.list ds) i d := h
theorem ix_t {ds : List PyData} {i : Int} {d : PyData} (h : atI ds i = some d) : ixD (.tuple ds) i d := h
theorem at0 {α : Type} {x : α} {xs : List α} : atI (x :: xs) 0 = some x := by
  unfold atI ixN
  rw [if_pos (by decide), if_pos (by simp only [List.length_cons]; omega)]; rfl
theorem at1 {α : Type} {x y : α} {xs : List α} : atI (x :: y :: xs) 1 = some y := by
  unfold atI ixN
  rw [if_pos (by decide), if_pos (by simp only [List.length_cons]; omega)]; rfl
theorem at2 {α : Type} {x y z : α} {xs : List α} : atI (x :: y :: z :: xs) 2 = some z := by
  unfold atI ixN
  rw [if_pos (by decide), if_pos (by simp only [List.length_cons]; omega)]; rfl
local macro_rules | `(tactic| walk_at "go") => `(tactic| repeat (first
  | refine ⟨_, rfl, ?_⟩
  | refine ⟨_, _, _, _, rfl, rfl, rfl, True.intro, ?_⟩
  | refine ⟨_, _, _, _, rfl, rfl, rfl, Or.inl rfl, ?_⟩
  | refine ⟨_, _, _, rfl, rfl, True.intro, ?_⟩
  | refine ⟨_, _, _, rfl, rfl, rfl, True.intro, ?_⟩
  | refine ⟨_, _, rfl, rfl, True.intro, ?_⟩
  | refine ⟨_, _, _, _, rfl, rfl, True.intro, ?_⟩
  | refine ⟨_, _, _, _, rfl, rfl, rfl, len_ok rfl, ?_⟩
  | refine ⟨len_ok rfl, ?_⟩
  | refine ⟨len_lt rfl, ?_⟩
  | refine ⟨lt_1k rfl, ?_⟩
  | refine ⟨True.intro, ?_⟩
  | refine ⟨_, _, _, rfl, rfl, ix_l rfl, ?_⟩
  | refine ⟨_, _, _, rfl, rfl, ix_t rfl, ?_⟩
  | refine ⟨_, _, _, rfl, rfl, ix_t at0, ?_⟩
  | refine ⟨_, _, _, rfl, rfl, ix_l at0, ?_⟩
  | refine ⟨rfl, rfl, rfl, rfl, ?_⟩
  | refine ⟨_, _, rfl, rfl, ?_⟩
  | refine ⟨_, rfl, rfl, ?_⟩
  | refine ⟨_, _, Or.inr rfl, ?_⟩
  | refine ⟨_, _, Or.inl rfl, ?_⟩
  | refine ⟨_, _, rfl, ?_⟩
  | refine ⟨rfl, ?_⟩
  | refine ⟨_, _, _, rfl, rfl, rfl, ?_⟩
  | refine wiT ?_
  | refine wiF ?_))
/-- a loop that is only left at its end: what follows is a variable, so that terms stay small -/
theorem wLoop_recO {G : List Ob → Prop} {wg : WG} {wb : WS} {De : DEnds} (I : List U → Rho → List Ob → Prop) (h0 : ∀ ρ M, I [] ρ M → G M ∧ De.nx ρ M)
    (h1 : ∀ (N : Rho → List Ob → Prop) (R : U → List Ob → Prop) (B : Rho → List Ob → Prop) u us, (∀ ρ M, I us ρ M → N ρ M) → ∀ ρ M, I (u :: us) ρ M → G M ∧ wg u ρ M fun ρ1 M1 => wb ⟨N, R, B, N⟩ ρ1 M1) :
    ∀ us ρ M, I us ρ M → wLoop G wg wb De us ρ M := wLoop_rec I h0 fun u us ih ρ M h => h1 _ _ _ u us ih ρ M h
theorem eqv_b1 (b : Bool) : PyData.eqv (.bool b) (.bool b) = true := by cases b <;> rfl
theorem cut1 {α : Type} (x : α) (xs : List α) : cutD (x :: xs) (some 1) none = xs := by
  unfold cutD
  rw [show HT.sIx (x :: xs).length 0 (some 1) = min 1 (x :: xs).length from HT.sIx_nat _ 0 1, HT.sIx_none]
  rw [show min 1 (x :: xs).length = 1 by rw [List.length_cons]; omega]
  simp

def bagO (g h : Int) : Ob := .lst [.int g, .int h]
def bagOk (g h : Int) : Prop := 0 ≤ g ∧ 0 ≤ h ∧ h < 2147483647
def primesL : List Int := [2147483629, 2147483587, 2147483579, 2147483563, 2147483549, 2147483543, 2147483497, 2147483489]
theorem prime_at (i : Int) (h0 : 0 ≤ i) (h8 : i < 8) : ∃ p : Int, atI ([.int 2147483629, .int 2147483587, .int 2147483579, .int 2147483563, .int 2147483549, .int 2147483543, .int 2147483497, .int 2147483489] : List PyData) i = some (.int p) ∧ 0 < p ∧ p < 2147483647 := by
  have h : i = 0 ∨ i = 1 ∨ i = 2 ∨ i = 3 ∨ i = 4 ∨ i = 5 ∨ i = 6 ∨ i = 7 := by omega
  rcases h with rfl | rfl | rfl | rfl | rfl | rfl | rfl | rfl <;> exact ⟨_, rfl, by decide, by decide⟩
theorem word_at (i : Int) (h0 : 0 ≤ i) (h8 : i < 8) : ∃ p : Int, atI ([.int 0, .int 1, .int 2, .int 63, .int 64, .int 65535, .int 65534, .int 32768] : List PyData) i = some (.int p) ∧ 0 ≤ p ∧ p < 65536 := by
  have h : i = 0 ∨ i = 1 ∨ i = 2 ∨ i = 3 ∨ i = 4 ∨ i = 5 ∨ i = 6 ∨ i = 7 := by omega
  rcases h with rfl | rfl | rfl | rfl | rfl | rfl | rfl | rfl <;> exact ⟨_, rfl, by decide, by decide⟩
theorem sizes_at (i : Int) (h0 : 0 ≤ i) (h5 : i < 5) : ∃ m : Nat, atI ([.int 6, .int 1, .int 20, .int 3, .int 11] : List PyData) i = some (.int (m : Int)) ∧ 1 ≤ m ∧ m ≤ 20 := by
  have h : i = 0 ∨ i = 1 ∨ i = 2 ∨ i = 3 ∨ i = 4 := by omega
  rcases h with rfl | rfl | rfl | rfl | rfl
  · exact ⟨6, rfl, by decide, by decide⟩
  · exact ⟨1, rfl, by decide, by decide⟩
  · exact ⟨20, rfl, by decide, by decide⟩
  · exact ⟨3, rfl, by decide, by decide⟩
  · exact ⟨11, rfl, by decide, by decide⟩
theorem intsU_succ (i : Int) (n : Nat) : intsU i (n + 1) = U.d (.int i) :: intsU (i + 1) n := by
  unfold intsU
  rw [List.range_succ_eq_map, List.map_cons, List.map_map]
  congr 1
  · simp
  · apply List.map_congr_left
    intro j _
    simp
    omega
inductive Pat where
  | kind (k : Str) | num | is_ (w : Int) | lss (w : Int) | var | op (o : Str) (ps : List Pat)
mutual
def Pat.enc : Pat → PyData
  | .kind k => .str k
  | .num => .tuple [.str "num"]
  | .is_ w => .tuple [.str "num", .str "is", .int w]
  | .lss w => .tuple [.str "num", .str "below", .int w]
  | .var => .tuple [.str "var"]
  | .op o ps => .tuple (.str o :: Pat.encs ps)
def Pat.encs : List Pat → List PyData
  | [] => []
  | p :: ps => p.enc :: Pat.encs ps
end
mutual
def Pat.depth : Pat → Nat
  | .op _ ps => Pat.depths ps + 1
  | _ => 1
def Pat.depths : List Pat → Nat
  | [] => 0
  | p :: ps => max p.depth (Pat.depths ps)
end
mutual
def Pat.size : Pat → Nat
  | .op _ ps => Pat.sizes ps + 1
  | _ => 1
def Pat.sizes : List Pat → Nat
  | [] => 0
  | p :: ps => p.size + Pat.sizes ps
end
mutual
def Pat.ok : Pat → Prop
  | .op o ps => o ≠ "num" ∧ Pat.oks ps
  | _ => True
def Pat.oks : List Pat → Prop
  | [] => True
  | p :: ps => p.ok ∧ Pat.oks ps
end
structure Nd where
  op : Str
  mark : PyData
  kids : List Nat
def encKids (ks : List Nat) : List PyData := ks.map fun (k : Nat) => PyData.int (k : Int)
def Nd.enc (n : Nd) : PyData := .tuple [.str n.op, n.mark, .tuple (encKids n.kids)]
def encWeb (web : List Nd) : PyData := .list (web.map Nd.enc)
def markI (n : Nd) : Int := match n.mark with
  | .int w => w
  | _ => 0
structure NdOk (l : Nat) (n : Nd) : Prop where
  mark : n.mark = .none ∨ (∃ w, n.mark = .int w) ∨ ∃ x, n.mark = .str x
  num : n.op = "num" → (∃ w, n.mark = .int w) ∧ n.kids = []
  var : n.op = "var" → n.kids = []
  kids : ∀ k ∈ n.kids, k < l
def WebOk (web : List Nd) : Prop := ∀ n ∈ web, NdOk web.length n
def isFit : Pat → Nd → Bool
  | .kind _, _ => false
  | .num, n => decide (n.op = "num")
  | .is_ w, n => decide (n.op = "num") && decide (markI n = w)
  | .lss w, n => decide (n.op = "num") && decide (markI n < w)
  | .var, n => decide (n.op = "var")
  | .op o _, n => decide (n.op = o)
def marks0 (n : Nd) : List PyData := match n.mark with
  | .none => []
  | m => [m]
abbrev Fit := Option (List (Nat × Str) × List PyData)
def leafFit (web : List Nd) (p : Pat) (a : Nat) : Fit := match web[a]? with
  | none => none
  | some n => if isFit p n = true then some ([], marks0 n) else none
mutual
def fit (web : List Nd) : Pat → Nat → Fit
  | .kind k, a => some ([(a, k)], [])
  | .op o ps, a => match web[a]? with
    | none => none
    | some n => if n.op = o then (match fitAll web ps n.kids with
      | none => none
      | some (ns, ms) => some (ns, marks0 n ++ ms)) else none
  | .num, a => leafFit web .num a
  | .is_ w, a => leafFit web (.is_ w) a
  | .lss w, a => leafFit web (.lss w) a
  | .var, a => leafFit web .var a
def fitAll (web : List Nd) : List Pat → List Nat → Fit
  | p :: ps, k :: ks => match fit web p k with
    | none => none
    | some (n1, m1) => match fitAll web ps ks with
      | none => none
      | some (n2, m2) => some (n1 ++ n2, m1 ++ m2)
  | _, _ => some ([], [])
end
def encNeed (x : Nat × Str) : PyData := .tuple [.int (x.1 : Int), .str x.2]
def encFit : Fit → PyData
  | none => .none
  | some (ns, ms) => .tuple [.list (ns.map encNeed), .list ms]
theorem marks0_len (n : Nd) : (marks0 n).length ≤ 1 := by unfold marks0; split <;> simp
mutual
theorem fit_size (web : List Nd) : ∀ (p : Pat) (a : Nat) (ns : List (Nat × Str)) (ms : List PyData), fit web p a = some (ns, ms) → ns.length ≤ p.size ∧ ms.length ≤ p.size
  | .kind k, a, ns, ms, h => by simp [fit] at h; obtain ⟨rfl, rfl⟩ := h; simp [Pat.size]
  | .op o ps, a, ns, ms, h => by
    unfold fit at h
    split at h
    · cases h
    · rename_i n _
      split at h
      · split at h
        · cases h
        · rename_i n2 m2 e
          obtain ⟨h1, h2⟩ := fitAll_size web ps n.kids n2 m2 e
          cases h
          have := marks0_len n
          simp only [Pat.size, List.length_append]
          omega
      · cases h
  | .num, a, ns, ms, h => leaf_size web .num a ns ms (by unfold fit at h; exact h)
  | .is_ w, a, ns, ms, h => leaf_size web (.is_ w) a ns ms (by unfold fit at h; exact h)
  | .lss w, a, ns, ms, h => leaf_size web (.lss w) a ns ms (by unfold fit at h; exact h)
  | .var, a, ns, ms, h => leaf_size web .var a ns ms (by unfold fit at h; exact h)
theorem leaf_size (web : List Nd) (p : Pat) (a : Nat) (ns : List (Nat × Str)) (ms : List PyData) (h : leafFit web p a = some (ns, ms)) : ns.length ≤ p.size ∧ ms.length ≤ p.size := by
  have hp : 1 ≤ p.size := by cases p <;> simp [Pat.size]
  unfold leafFit at h
  split at h
  · cases h
  · rename_i n _
    split at h
    · cases h
      have := marks0_len n
      exact ⟨Nat.zero_le _, by omega⟩
    · cases h
theorem fitAll_size (web : List Nd) : ∀ (ps : List Pat) (ks : List Nat) (ns : List (Nat × Str)) (ms : List PyData), fitAll web ps ks = some (ns, ms) → ns.length ≤ Pat.sizes ps ∧ ms.length ≤ Pat.sizes ps
  | [], ks, ns, ms, h => by simp [fitAll] at h; obtain ⟨rfl, rfl⟩ := h; simp
  | p :: ps, [], ns, ms, h => by simp [fitAll] at h; obtain ⟨rfl, rfl⟩ := h; simp
  | p :: ps, k :: ks, ns, ms, h => by
    unfold fitAll at h
    split at h
    · cases h
    · rename_i n1 m1 e1
      obtain ⟨a1, a2⟩ := fit_size web p k n1 m1 e1
      split at h
      · cases h
      · rename_i n2 m2 e2
        obtain ⟨b1, b2⟩ := fitAll_size web ps ks n2 m2 e2
        cases h
        simp only [Pat.sizes, List.length_append]
        omega
end
theorem sizes_len (ps : List Pat) : ps.length ≤ Pat.sizes ps := by
  induction ps with
  | nil => simp
  | cons p ps ih =>
    have : 1 ≤ p.size := by cases p <;> simp [Pat.size]
    simp only [List.length_cons, Pat.sizes]; omega
theorem all_mem {ps : List Pat} {p : Pat} (h : p ∈ ps) : p.depth ≤ Pat.depths ps ∧ p.size ≤ Pat.sizes ps ∧ (Pat.oks ps → p.ok) := by
  induction ps with
  | nil => cases h
  | cons q ps ih =>
    simp only [Pat.depths, Pat.sizes, Pat.oks]
    rcases List.mem_cons.mp h with rfl | h
    · exact ⟨by omega, by omega, fun h => h.1⟩
    · obtain ⟨a, b, c⟩ := ih h
      exact ⟨by omega, by omega, fun h => c h.2⟩
def sp_bag (K : PySem.W.Frag) : DSp := fun us M Q => ∃ (ns : List Int) (at_ : Int), us = [.s K ns, .d (.int at_)] ∧ M = [] ∧ ns.length ≤ 63 ∧ 0 ≤ at_ ∧ at_ ≤ 1000 ∧ ∀ g h, bagOk g h → Q (.p 0) [bagO g h]
def sp_take : DSp := fun us M Q => ∃ g h n : Int, us = [.p 0, .d (.int n)] ∧ M = [bagO g h] ∧ bagOk g h ∧ 0 < n ∧ n ≤ 2147483647 ∧ ∀ r g' h', 0 ≤ r → r < n → bagOk g' h' → Q (.d (.int r)) [bagO g' h']
def sp_word : DSp := fun us M Q => ∃ g h : Int, us = [.p 0] ∧ M = [bagO g h] ∧ bagOk g h ∧ ∀ r g' h', 0 ≤ r → r < 65536 → bagOk g' h' → Q (.d (.int r)) [bagO g' h']
def sp_is_fit : DSp := fun us M Q => ∃ (p : Pat) (n : Nd), us = [.d p.enc, .d n.enc] ∧ M = [] ∧ (∀ k, p ≠ .kind k) ∧ p.ok ∧ (n.op = "num" → ∃ w, n.mark = .int w) ∧ Q (.d (.bool (isFit p n))) []
structure Rule where
  name : Str
  kind : Str
  pat : Pat
  cost : Int
def Rule.enc (r : Rule) : PyData := .tuple [.str r.name, .str r.kind, r.pat.enc, .int r.cost]
def RulesOk (rs : List Rule) : Prop := rs.length ≤ 1000 ∧ ∀ r ∈ rs, r.pat.ok ∧ r.pat.depth ≤ 8 ∧ r.pat.size ≤ 100000
def encMachine (g : Str) (rs : List Rule) : PyData := .tuple [.str g, .list (rs.map Rule.enc)]
def fit1 (web : List Nd) (a : Nat) (r : Rule) : List PyData := match fit web r.pat a with
  | none => []
  | some (ns, ms) => [.tuple [.str r.name, .tuple (ns.map encNeed), .tuple ms]]
def fitsD (web : List Nd) (a : Nat) (rs : List Rule) : List PyData := (rs.map (fit1 web a)).flatten
def isKind : Pat → Bool
  | .kind _ => true
  | _ => false
def subs : Pat → List Pat
  | .op _ ps => ps
  | _ => []
theorem enc_tup (p : Pat) (h : isKind p = false) : ∃ s tl, p.enc = .tuple (.str s :: tl) ∧ ∀ ks : List Nat, (p = .num ∨ (∃ w, p = .is_ w) ∨ (∃ w, p = .lss w) ∨ p = .var → ks = []) → (encKids ks).zip tl = (encKids ks).zip (Pat.encs (subs p)) := by
  cases p with
  | kind k => cases h
  | num => exact ⟨_, _, by unfold Pat.enc; rfl, fun ks e => by rw [e (.inl rfl)]; rfl⟩
  | is_ w => exact ⟨_, _, by unfold Pat.enc; rfl, fun ks e => by rw [e (.inr (.inl ⟨_, rfl⟩))]; rfl⟩
  | lss w => exact ⟨_, _, by unfold Pat.enc; rfl, fun ks e => by rw [e (.inr (.inr (.inl ⟨_, rfl⟩)))]; rfl⟩
  | var => exact ⟨_, _, by unfold Pat.enc; rfl, fun ks e => by rw [e (.inr (.inr (.inr rfl)))]; rfl⟩
  | op o ps => exact ⟨_, _, by unfold Pat.enc; rfl, fun ks _ => rfl⟩
theorem fit_node (web : List Nd) (p : Pat) (a : Nat) (n : Nd) (h : isKind p = false) (hn : web[a]? = some n) (hw : NdOk web.length n) : fit web p a = if isFit p n = true then (match fitAll web (subs p) n.kids with
    | none => none
    | some (ns, ms) => some (ns, marks0 n ++ ms)) else none := by
  cases p with
  | kind k => cases h
  | op o ps =>
    unfold fit
    rw [hn]
    simp only [isFit, subs, decide_eq_true_eq]
  | _ =>
    unfold fit leafFit
    rw [hn]
    simp [subs, fitAll]
theorem leaf_kids {p : Pat} {n : Nd} {l : Nat} (hw : NdOk l n) (hf : isFit p n = true) : p = .num ∨ (∃ w, p = .is_ w) ∨ (∃ w, p = .lss w) ∨ p = .var → n.kids = [] := by
  rintro (rfl | ⟨w, rfl⟩ | ⟨w, rfl⟩ | rfl) <;> simp [isFit] at hf
  · exact (hw.num hf).2
  · exact (hw.num hf.1).2
  · exact (hw.num hf.1).2
  · exact hw.var hf
def sp_matched : Nat → DSp := fun lv us M Q => ∃ (web : List Nd) (p : Pat) (a : Nat), us = [.d p.enc, .d (encWeb web), .d (.int (a : Int))] ∧ M = [] ∧ WebOk web ∧ a < web.length ∧ p.ok ∧ p.depth ≤ lv ∧ p.size ≤ 100000 ∧ Q (.d (encFit (fit web p a))) []
theorem web_at {web : List Nd} {a : Nat} (h : a < web.length) : ∃ n, web[a]? = some n ∧ n ∈ web ∧ atI (web.map Nd.enc) (a : Int) = some n.enc := by
  refine ⟨web[a], List.getElem?_eq_getElem h, List.getElem_mem h, ?_⟩
  unfold atI ixN
  rw [if_pos (by omega), if_pos (by rw [List.length_map]; omega)]
  show (web.map Nd.enc)[a]? = _
  rw [List.getElem?_map, List.getElem?_eq_getElem h]; rfl
@[irreducible] def sp_fits : DSp := fun us M Q => ∃ (g : Str) (rs : List Rule) (web : List Nd) (a : Nat), us = [.d (encMachine g rs), .d (encWeb web), .d (.int (a : Int))] ∧ M = [] ∧ WebOk web ∧ RulesOk rs ∧ a < web.length ∧ Q (.d (.list (fitsD web a rs))) []
theorem ask_fits {g : Str} {rs : List Rule} {web : List Nd} {a : Nat} {Q : U → List Ob → Prop} (hw : WebOk web) (hr : RulesOk rs) (ha : a < web.length) (q : Q (.d (.list (fitsD web a rs))) []) : sp_fits [.d (encMachine g rs), .d (encWeb web), .d (.int (a : Int))] [] Q := by
  unfold sp_fits
  exact ⟨g, rs, web, a, rfl, rfl, hw, hr, ha, q⟩
mutual
def slim : PyData → Bool
  | .dict _ => false
  | .list xs => decide (xs.length ≤ 1000) && slims xs
  | .tuple xs => decide (xs.length ≤ 1000) && slims xs
  | _ => true
def slims : List PyData → Bool
  | [] => true
  | x :: xs => slim x && slims xs
end
def sp_like : Nat → DSp := fun lv us M Q => ∃ a : PyData, us = [.d a, .d a] ∧ M = [] ∧ SeqAt.shaped a = true ∧ slim a = true ∧ a.depth < lv ∧ Q (.d (.bool true)) []
theorem slim_nd {a : PyData} (h : slim a = true) : noDict a = true := by
  cases a with
  | dict _ => simp [slim] at h
  | _ => rfl
theorem shaped_in : ∀ (xs : List PyData) (b : Bool), SeqAt.shaped (if b then .list xs else .tuple xs) = true → ∀ x ∈ xs, SeqAt.shaped x = true ∧ x.depth < (PyData.list xs).depth
  | [], b, h, x, hx => by cases hx
  | y :: ys, b, h, x, hx => by
    have h' : (PyData.canLay0 y = true ∧ PyData.canLayAll0 ys = true) ∧ max y.depth (PyData.depthAll ys) + 1 ≤ 64 := by
      cases b <;> simpa [SeqAt.shaped, PyData.canLay0, PyData.canLayAll0, PyData.depth, PyData.depthAll] using h
    rcases List.mem_cons.mp hx with rfl | hx
    · refine ⟨?_, ?_⟩
      · simp [SeqAt.shaped, h'.1.1]; omega
      · simp [PyData.depth, PyData.depthAll]; omega
    · obtain ⟨q1, q2⟩ := shaped_in ys true (by simp [SeqAt.shaped, PyData.canLay0, PyData.depth, h'.1.2]; omega) x hx
      refine ⟨q1, ?_⟩
      simp [PyData.depth, PyData.depthAll] at q2 ⊢
      omega
theorem slims_in {xs : List PyData} (h : slims xs = true) : ∀ x ∈ xs, slim x = true := by
  induction xs with
  | nil => intro x hx; cases hx
  | cons y ys ih =>
    have h' : slim y = true ∧ slims ys = true := by simpa [slims] using h
    intro x hx
    rcases List.mem_cons.mp hx with rfl | hx
    · exact h'.1
    · exact ih h'.2 x hx
theorem pairs_self (xs : List PyData) : pairs xs xs = xs.map fun x => U.d (.tuple [x, x]) := by
  unfold pairs
  induction xs with
  | nil => rfl
  | cons x xs ih => rw [List.zip_cons_cons, List.map_cons, ih]; rfl
theorem bools_rep : ∀ n : Nat, bools (List.replicate n (PyData.bool true)) = some (List.replicate n true)
  | 0 => rfl
  | n + 1 => by rw [List.replicate_succ, List.replicate_succ]; unfold bools; rw [bools_rep n]
theorem all_rep : ∀ n : Nat, (List.replicate n true).all id = true
  | 0 => rfl
  | n + 1 => by rw [List.replicate_succ, List.all_cons, all_rep n]; rfl
def nameOk (s : Str) : Prop := 1 ≤ s.cps.toList.length ∧ s.cps.toList.length ≤ 8 ∧ ∀ c ∈ s.cps.toList, 97 ≤ c ∧ c ≤ 122
theorem name_shaped {s : Str} (h : nameOk s) : SeqAt.shaped (.str s) = true := by
  have e : PyData.strOk s = true := by
    unfold PyData.strOk
    rw [Array.all_eq_true_iff_forall_mem]
    intro c hc
    have := h.2.2 c (Array.mem_toList_iff.mpr hc)
    exact decide_eq_true (by omega)
  simp [SeqAt.shaped, PyData.canLay0, PyData.depth, e]
def sp_name : DSp := fun us M Q => ∃ g h : Int, us = [.p 0] ∧ M = [bagO g h] ∧ bagOk g h ∧ ∀ s g' h', nameOk s → bagOk g' h' → Q (.d (.str s)) [bagO g' h']
theorem names_at (i : Int) (h0 : 0 ≤ i) (h5 : i < 5) : ∃ s : Str, atI ([.str "a", .str "b", .str "ab", .str "zzzzzzzz", .str "ax"] : List PyData) i = some (.str s) ∧ nameOk s := by
  have h : i = 0 ∨ i = 1 ∨ i = 2 ∨ i = 3 ∨ i = 4 := by omega
  rcases h with rfl | rfl | rfl | rfl | rfl <;> exact ⟨_, rfl, by decide +kernel, by decide +kernel, by decide +kernel⟩
theorem fin_bag {g h g' h' : Int} {Qu : U → List Ob → Prop} {z : PyData} (q : Qu (.d z) [bagO g' h']) : Fin' [bagO g h] Qu (.d z) [bagO g' h'] := fin_d (Nat.le_refl _) (fun o ho => by
  have e : o = _ := List.mem_singleton.mp ho
  subst e
  exact trivial) q
theorem letter_at (i : Int) (h0 : 0 ≤ i) (h26 : i < 26) : ∃ c, atI (Str.ofString "abcdefghijklmnopqrstuvwxyz").cps.toList i = some c ∧ 97 ≤ c ∧ c ≤ 122 := by
  have hl : (Str.ofString "abcdefghijklmnopqrstuvwxyz").cps.toList = [97, 98, 99, 100, 101, 102, 103, 104, 105, 106, 107, 108, 109, 110, 111, 112, 113, 114, 115, 116, 117, 118, 119, 120, 121, 122] := by decide +kernel
  rw [hl]
  have hj : i.toNat < 26 := by omega
  refine ⟨97 + i.toNat, ?_, by omega, by omega⟩
  unfold atI ixN
  rw [if_pos h0, if_pos (by simp; omega)]
  have : ∀ j < 26, ([97, 98, 99, 100, 101, 102, 103, 104, 105, 106, 107, 108, 109, 110, 111, 112, 113, 114, 115, 116, 117, 118, 119, 120, 121, 122] : List Nat)[j]? = some (97 + j) := by decide +kernel
  exact this _ hj
theorem texts_map : ∀ cs : List Nat, texts (cs.map (fun c => PyData.str ⟨#[c]⟩)) = some (cs.map fun c => (⟨#[c]⟩ : Str))
  | [] => rfl
  | c :: cs => by rw [List.map_cons, List.map_cons]; unfold texts; rw [texts_map cs]
theorem chars_sum : ∀ cs : List Nat, ((cs.map fun c => (⟨#[c]⟩ : Str)).map (·.length)).sum = cs.length
  | [] => rfl
  | c :: cs => by rw [List.map_cons, List.map_cons, List.sum_cons, chars_sum cs]; show 1 + cs.length = cs.length + 1; omega
theorem joinL_flat : ∀ ps : List (List Nat), TL.joinL [] ps = ps.flatten
  | [] => rfl
  | [p] => by simp [TL.joinL]
  | p :: q :: r => by rw [TL.joinL, joinL_flat (q :: r)]; simp
theorem flat_one : ∀ cs : List Nat, ((cs.map fun c => (⟨#[c]⟩ : Str)).map TL.tl).flatten = cs
  | [] => rfl
  | c :: cs => by rw [List.map_cons, List.map_cons, List.flatten_cons, flat_one cs]; rfl
theorem join_chars (cs : List Nat) : (Txt.join (Str.ofString "") (cs.map fun c => (⟨#[c]⟩ : Str))).cps.toList = cs := by
  rw [TL.join_eq]
  refine (TL.tl_join (Str.ofString "") (cs.map fun c => (⟨#[c]⟩ : Str))).trans ?_
  rw [show TL.tl (Str.ofString "") = [] by decide, joinL_flat, flat_one]
def kidsOf (web : List Nd) : List Nat := (web.map Nd.kids).flatten
def ops1 : List Str := ["load", "neg", "not"]
def ops2 : List Str := ["add", "sub", "mul", "and", "or", "xor"]
/-- a node of a web, not its deed: at the l-th place -/
def GoodNd (l : Nat) (n : Nd) : Prop :=
  (n.op = "num" ∧ (∃ w : Int, n.mark = .int w ∧ 0 ≤ w ∧ w < 65536) ∧ n.kids = []) ∨ (n.op = "var" ∧ (∃ s, n.mark = .str s ∧ nameOk s) ∧ n.kids = []) ∨
  (n.op ∈ ops1 ∧ n.mark = .none ∧ ∃ a, n.kids = [a] ∧ a < l) ∨ (n.op ∈ ops2 ∧ n.mark = .none ∧ ∃ a b, n.kids = [a, b] ∧ a < l ∧ b < l)
def PartOk (web : List Nd) : Prop := ∀ i n, web[i]? = some n → GoodNd i n
structure Loose (web : List Nd) (loose : List Nat) : Prop where
  nd : loose.Nodup
  lt : ∀ i ∈ loose, i < web.length
  un : ∀ i, i < web.length → (i ∈ loose ↔ i ∉ kidsOf web)
def OnceOk (once : Bool) (web : List Nd) : Prop := once = true → (kidsOf web).Nodup
def webO (web : List Nd) : Ob := .lst (web.map Nd.enc)
def looseO (loose : List Nat) : Ob := .lst (encKids loose)
def sp_part : DSp := fun us M Q => ∃ (g h : Int) (web : List Nd) (loose : List Nat) (once : Bool), us = [.p 0, .p 1, .p 2, .d (.bool once)] ∧ M = [bagO g h, webO web, looseO loose] ∧ bagOk g h ∧ PartOk web ∧ Loose web loose ∧ OnceOk once web ∧ web.length ≤ 1000 ∧ loose.length ≤ web.length ∧
  ∀ (n : Nd) (loose' : List Nat) (g' h' : Int), PartOk (web ++ [n]) → Loose (web ++ [n]) loose' → OnceOk once (web ++ [n]) → bagOk g' h' → web.length ∈ loose' → loose'.length ≤ loose.length + 1 → Q (.d .none) [bagO g' h', webO (web ++ [n]), looseO loose']
/-- an op with the number of its kids -/
def OpMany (op : Str) (many : Nat) : Prop := (op = "num" ∧ many = 0) ∨ (op = "var" ∧ many = 0) ∨ (op ∈ ops1 ∧ many = 1) ∨ (op ∈ ops2 ∧ many = 2)
theorem op_at (i : Int) (h0 : 0 ≤ i) (h12 : i < 12) : ∃ (op : Str) (many : Nat), atI ([.str "num", .str "var", .str "num", .str "load", .str "neg", .str "not", .str "add", .str "sub", .str "mul", .str "and", .str "or", .str "xor"] : List PyData) i = some (.str op) ∧ OpMany op many ∧
    ((valD [(.inr "num", .int 0), (.inr "var", .int 0), (.inr "load", .int 1), (.inr "neg", .int 1), (.inr "not", .int 1)] (.inr op) = none ∧ many = 2) ∨ valD [(.inr "num", .int 0), (.inr "var", .int 0), (.inr "load", .int 1), (.inr "neg", .int 1), (.inr "not", .int 1)] (.inr op) = some (.int (many : Int))) := by
  have h : i = 0 ∨ i = 1 ∨ i = 2 ∨ i = 3 ∨ i = 4 ∨ i = 5 ∨ i = 6 ∨ i = 7 ∨ i = 8 ∨ i = 9 ∨ i = 10 ∨ i = 11 := by omega
  rcases h with rfl | rfl | rfl | rfl | rfl | rfl | rfl | rfl | rfl | rfl | rfl | rfl
  · exact ⟨_, 0, rfl, .inl ⟨rfl, rfl⟩, .inr (by rfl)⟩
  · exact ⟨_, 0, rfl, .inr (.inl ⟨rfl, rfl⟩), .inr (by rfl)⟩
  · exact ⟨_, 0, rfl, .inl ⟨rfl, rfl⟩, .inr (by rfl)⟩
  · exact ⟨_, 1, rfl, .inr (.inr (.inl ⟨by decide, rfl⟩)), .inr (by rfl)⟩
  · exact ⟨_, 1, rfl, .inr (.inr (.inl ⟨by decide, rfl⟩)), .inr (by rfl)⟩
  · exact ⟨_, 1, rfl, .inr (.inr (.inl ⟨by decide, rfl⟩)), .inr (by rfl)⟩
  all_goals exact ⟨_, 2, rfl, .inr (.inr (.inr ⟨by decide, rfl⟩)), .inl ⟨by rfl, rfl⟩⟩
theorem rg_ok {n : Nat} (h : n ≤ 1000) : RgOk 0 (n : Int) := ⟨by omega, by omega, by omega, by omega, by omega⟩
theorem rgD_kids (n : Nat) : rgD (n : Int) = encKids (List.range n) := by unfold rgD encKids; rw [Int.toNat_natCast]
/-- while a node's kids are drawn -/
structure KidSt (once : Bool) (web : List Nd) (loose loose2 kids : List Nat) : Prop where
  nd : loose2.Nodup
  mem : ∀ i, i ∈ loose2 ↔ i ∈ loose ∧ i ∉ kids
  lt : ∀ k ∈ kids, k < web.length
  on : once = true → kids.Nodup ∧ (∀ k ∈ kids, k ∈ loose) ∧ loose2.length + kids.length = loose.length
  le : loose2.length ≤ loose.length
theorem kid_keep {once : Bool} {web : List Nd} {loose loose2 kids : List Nat} {k : Nat} (h : KidSt once web loose loose2 kids) (hk : k < web.length) (ho : once = true → k ∈ loose2) (hn : k ∉ loose2) : KidSt once web loose loose2 (kids ++ [k]) where
  nd := h.nd
  mem := fun i => by
    rw [h.mem i, List.mem_append, List.mem_singleton]
    constructor
    · rintro ⟨a, b⟩
      refine ⟨a, fun c => c.elim b fun e => ?_⟩
      subst e
      exact hn ((h.mem _).mpr ⟨a, b⟩)
    · rintro ⟨a, b⟩; exact ⟨a, fun c => b (.inl c)⟩
  lt := fun i hi => (List.mem_append.mp hi).elim (h.lt i) fun e => by rw [List.mem_singleton.mp e]; exact hk
  on := fun e => absurd (ho e) hn
  le := h.le
theorem kid_drop {once : Bool} {web : List Nd} {loose loose2 kids : List Nat} {k : Nat} (h : KidSt once web loose loose2 kids) (hk : k < web.length) (hi : k ∈ loose2) : KidSt once web loose (loose2.erase k) (kids ++ [k]) where
  nd := h.nd.erase k
  mem := fun i => by
    rw [h.nd.mem_erase_iff, h.mem i, List.mem_append, List.mem_singleton]
    constructor
    · rintro ⟨c, a, b⟩; exact ⟨a, fun q => q.elim b c⟩
    · rintro ⟨a, b⟩; exact ⟨fun e => b (.inr e), a, fun e => b (.inl e)⟩
  lt := fun i hi => (List.mem_append.mp hi).elim (h.lt i) fun e => by rw [List.mem_singleton.mp e]; exact hk
  on := fun e => by
    obtain ⟨a, b, c⟩ := h.on e
    have hk1 := (h.mem k).mp hi
    refine ⟨List.nodup_append.mpr ⟨a, by simp, fun x hx y hy => ?_⟩, fun x hx => ?_, ?_⟩
    · rw [List.mem_singleton.mp hy]; exact fun q => hk1.2 (q ▸ hx)
    · exact (List.mem_append.mp hx).elim (b x) fun q => by rw [List.mem_singleton.mp q]; exact hk1.1
    · rw [List.length_erase_of_mem hi, List.length_append, List.length_singleton]
      have := List.length_pos_of_mem hi
      omega
  le := Nat.le_trans (List.length_erase_le) h.le
theorem kids_at (ls : List Nat) (j : Int) (h0 : 0 ≤ j) (h1 : j < ls.length) : ∃ k, k ∈ ls ∧ atI (encKids ls) j = some (.int (k : Int)) := by
  have hj : j.toNat < ls.length := by omega
  refine ⟨ls[j.toNat], List.getElem_mem hj, ?_⟩
  unfold atI ixN
  rw [if_pos h0, if_pos (by simp [encKids]; omega)]
  show (encKids ls)[j.toNat]? = _
  unfold encKids
  rw [List.getElem?_map, List.getElem?_eq_getElem hj]; rfl
theorem kids_in (ls : List Nat) (k : Nat) : (encKids ls).any (fun z => PyData.eqv z (.int (k : Int))) = decide (k ∈ ls) := by
  induction ls with
  | nil => rfl
  | cons x xs ih =>
    show (PyData.eqv (.int (x : Int)) (.int (k : Int)) || (encKids xs).any _) = _
    rw [ih, eqv_i, Bool.eq_iff_iff]
    simp only [Bool.or_eq_true, decide_eq_true_eq, List.mem_cons, Int.natCast_inj]
    exact ⟨fun h => h.imp Eq.symm id, fun h => h.imp Eq.symm id⟩
theorem kids_lay : ∀ ls : List Nat, PyData.canLayAll0 (encKids ls) = true ∧ PyData.depthAll (encKids ls) = 0
  | [] => ⟨rfl, rfl⟩
  | x :: xs => by
    obtain ⟨a, b⟩ := kids_lay xs
    unfold encKids at *
    rw [List.map_cons]
    simp [PyData.canLayAll0, PyData.canLay0, PyData.depthAll, PyData.depth, a, b]
theorem kids_shaped (ls : List Nat) : SeqAt.shaped (.list (encKids ls)) = true := by
  obtain ⟨a, b⟩ := kids_lay ls
  simp [SeqAt.shaped, PyData.canLay0, PyData.depth, a, b]
theorem kids_ints (ls : List Nat) : encKids ls = (ls.map fun (k : Nat) => (k : Int)).map PyData.int := by simp [encKids]
theorem kids_erase (ls : List Nat) (k : Nat) : ((ls.map fun (k : Nat) => (k : Int)).erase (k : Int)).map PyData.int = encKids (ls.erase k) := by
  induction ls with
  | nil => rfl
  | cons x xs ih =>
    rw [List.map_cons, List.erase_cons, List.erase_cons]
    by_cases e : x = k
    · subst e; simp [kids_ints]
    · rw [if_neg (fun q => e (Int.ofNat_inj.mp (eq_of_beq q))), if_neg (fun q => e (eq_of_beq q)), List.map_cons, ih]; rfl
theorem len_kids (ks : List Nat) : (encKids ks).length = ks.length := by simp [encKids]
theorem len_view {M : List Ob} {x : U} {sm : List Nat} (h : view M x = some (.list (encKids sm))) : fLen M x = some (.int (sm.length : Int), True) := by
  unfold fLen; rw [h]; simp [encKids]
theorem kids_snoc (ks : List Nat) (k : Nat) : Ob.lst (encKids ks ++ [.int (k : Int)]) = looseO (ks ++ [k]) := by
  unfold looseO encKids; rw [List.map_append]; rfl
theorem good_kids {l : Nat} {n : Nd} (h : GoodNd l n) : ∀ k ∈ n.kids, k < l := by
  rcases h with ⟨_, _, e⟩ | ⟨_, _, e⟩ | ⟨_, _, a, e, h1⟩ | ⟨_, _, a, b, e, h1, h2⟩ <;> rw [e] <;> intro k hk
  · cases hk
  · cases hk
  · rw [List.mem_singleton.mp hk]; exact h1
  · rcases List.mem_cons.mp hk with rfl | hk
    · exact h1
    · rw [List.mem_singleton.mp hk]; exact h2
theorem kids_lt {web : List Nd} (h : PartOk web) : ∀ k ∈ kidsOf web, k < web.length := by
  intro k hk
  unfold kidsOf at hk
  obtain ⟨ks, h1, h2⟩ := List.mem_flatten.mp hk
  obtain ⟨n, h3, rfl⟩ := List.mem_map.mp h1
  obtain ⟨i, hi, e⟩ := List.getElem_of_mem h3
  exact Nat.lt_trans (good_kids (h i n (by rw [List.getElem?_eq_getElem hi, e])) k h2) hi
theorem kidsOf_snoc (web : List Nd) (n : Nd) : kidsOf (web ++ [n]) = kidsOf web ++ n.kids := by simp [kidsOf]
theorem part_snoc {web : List Nd} {n : Nd} (h : PartOk web) (g : GoodNd web.length n) : PartOk (web ++ [n]) := by
  intro i m hm
  by_cases hi : i < web.length
  · rw [List.getElem?_append_left hi] at hm; exact h i m hm
  · rw [List.getElem?_append_right (by omega)] at hm
    have e : i = web.length := by
      have := (List.getElem?_eq_some_iff.mp hm).1
      simp at this; omega
    subst e
    simp at hm
    subst hm
    exact g
theorem loose_snoc {once : Bool} {web : List Nd} {loose loose2 kids : List Nat} {op : Str} {mark : PyData} (hw : PartOk web) (hl : Loose web loose) (h : KidSt once web loose loose2 kids) : Loose (web ++ [⟨op, mark, kids⟩]) (loose2 ++ [web.length]) where
  nd := List.nodup_append.mpr ⟨h.nd, by simp, fun x hx y hy => by
    rw [List.mem_singleton.mp hy]
    have := hl.lt x ((h.mem x).mp hx).1
    omega⟩
  lt := fun i hi => by
    rw [List.length_append, List.length_singleton]
    rcases List.mem_append.mp hi with hi | hi
    · have := hl.lt i ((h.mem i).mp hi).1; omega
    · rw [List.mem_singleton.mp hi]; omega
  un := fun i hi => by
    rw [kidsOf_snoc, List.mem_append, List.mem_append, List.mem_singleton, h.mem i]
    rw [List.length_append, List.length_singleton] at hi
    by_cases e : i = web.length
    · subst e
      refine ⟨fun _ q => ?_, fun _ => .inr rfl⟩
      rcases q with q | q
      · exact Nat.lt_irrefl _ (kids_lt hw _ q)
      · exact Nat.lt_irrefl _ (h.lt _ q)
    · have hi' : i < web.length := by omega
      rw [hl.un i hi']
      constructor
      · rintro (⟨a, b⟩ | a)
        · exact fun q => q.elim a b
        · exact absurd a e
      · exact fun q => .inl ⟨fun a => q (.inl a), fun b => q (.inr b)⟩
theorem once_snoc {once : Bool} {web : List Nd} {loose loose2 kids : List Nat} {op : Str} {mark : PyData} (hl : Loose web loose) (ho : OnceOk once web) (h : KidSt once web loose loose2 kids) : OnceOk once (web ++ [⟨op, mark, kids⟩]) := fun e => by
  rw [kidsOf_snoc]
  obtain ⟨a, b, _⟩ := h.on e
  refine List.nodup_append.mpr ⟨ho e, a, fun x hx y hy q => ?_⟩
  subst q
  exact (hl.un x (hl.lt x (b x hy))).mp (b x hy) hx
theorem len_two {ks : List Nat} (h : ks.length = 2) : ∃ a b, ks = [a, b] := by
  match ks, h with
  | [a, b], _ => exact ⟨a, b, rfl⟩
def DeedOk (l : Nat) (n : Nd) : Prop :=
  (n.op = "put" ∧ n.mark = .none ∧ ∃ a b, n.kids = [a, b] ∧ a < l ∧ b < l) ∨ (n.op = "set" ∧ (∃ s, n.mark = .str s ∧ nameOk s) ∧ ∃ a, n.kids = [a] ∧ a < l)
structure WebG (once : Bool) (parts : List Nd) (deed : Nd) : Prop where
  part : PartOk parts
  dd : DeedOk parts.length deed
  used : ∀ i, i < parts.length → i ∈ kidsOf (parts ++ [deed])
  tree : once = true → (kidsOf (parts ++ [deed])).Nodup
theorem fin_b {g h g' h' : Int} {Qu : U → List Ob → Prop} {z : PyData} {M' : List Ob} (q : Qu (.d z) [bagO g' h']) : Fin' [bagO g h] Qu (.d z) (bagO g' h' :: M') := fin_d (show 1 ≤ (bagO g' h' :: M').length by simp) (fun o ho => by
  have e : o = bagO g' h' := by simpa using ho
  subst e
  exact trivial) q
theorem fin_be {g h g' h' : Int} {Qu : U → List Ob → Prop} {z z' : PyData} {M' : List Ob} (e : z' = z) (q : Qu (.d z) [bagO g' h']) : Fin' [bagO g h] Qu (.d z') (bagO g' h' :: M') := fin_b (e ▸ q)
def sp_web : DSp := fun us M Q => ∃ (g h : Int) (many : Nat) (once : Bool), us = [.p 0, .d (.int (many : Int)), .d (.bool once)] ∧ M = [bagO g h] ∧ bagOk g h ∧ 1 ≤ many ∧ many ≤ 100 ∧
  ∀ (parts : List Nd) (deed : Nd) (g' h' : Int), WebG once parts deed → 1 ≤ parts.length → parts.length + 1 ≤ 2 * many → bagOk g' h' → Q (.d (encWeb (parts ++ [deed]))) [bagO g' h']
theorem web_put {once : Bool} {web : List Nd} {loose : List Nat} {a b : Nat} {s : List Nat} (hw : PartOk web) (hl : Loose web loose) (ho : OnceOk once web) (hs : s = [a, b]) (ha : a < web.length) (hb : b < web.length) (hsub : ∀ x ∈ loose, x ∈ s) (hon : once = true → s = loose) : WebG once web ⟨"put", .none, s⟩ where
  part := hw
  dd := .inl ⟨rfl, rfl, a, b, hs, ha, hb⟩
  used := fun i hi => by
    rw [kidsOf_snoc, List.mem_append]
    by_cases h : i ∈ kidsOf web
    · exact .inl h
    · exact .inr (hsub i ((hl.un i hi).mpr h))
  tree := fun e => by
    rw [kidsOf_snoc]
    have es := hon e
    show (kidsOf web ++ s).Nodup
    rw [es]
    refine List.nodup_append.mpr ⟨ho e, hl.nd, fun x hx y hy q => ?_⟩
    subst q
    exact (hl.un x (hl.lt x hy)).mp hy hx
theorem web_set {once : Bool} {web : List Nd} {a : Nat} {s : Str} (hw : PartOk web) (hl : Loose web [a]) (ho : OnceOk once web) (hs : nameOk s) : WebG once web ⟨"set", .str s, [a]⟩ where
  part := hw
  dd := .inr ⟨rfl, ⟨s, rfl, hs⟩, a, rfl, hl.lt a List.mem_cons_self⟩
  used := fun i hi => by
    rw [kidsOf_snoc, List.mem_append]
    by_cases h : i ∈ kidsOf web
    · exact .inl h
    · exact .inr ((hl.un i hi).mpr h)
  tree := fun e => by
    rw [kidsOf_snoc]
    refine List.nodup_append.mpr ⟨ho e, hl.nd, fun x hx y hy q => ?_⟩
    subst q
    exact (hl.un x (hl.lt x hy)).mp hy hx
theorem enc_snoc (web : List Nd) (n : Nd) : PyData.list (web.map Nd.enc ++ [n.enc]) = encWeb (web ++ [n]) := by simp [encWeb]
theorem kids_eraseIdx : ∀ (ls : List Nat) (k : Nat), (encKids ls).eraseIdx k = encKids (ls.eraseIdx k)
  | [], _ => rfl
  | _ :: _, 0 => rfl
  | x :: xs, k + 1 => by
    have e := kids_eraseIdx xs k
    simp only [encKids, List.map_cons, List.eraseIdx_cons_succ] at e ⊢
    rw [e]
theorem web_snoc (web : List Nd) (n : Nd) : Ob.lst (web.map Nd.enc ++ [n.enc]) = webO (web ++ [n]) := by simp [webO]
theorem erase_at : ∀ {ls : List Nat} (nd : ls.Nodup) (j : Nat) (h : j < ls.length), ls.erase ls[j] = ls.eraseIdx j
  | x :: xs, _, 0, _ => by simp
  | x :: xs, nd, j + 1, h => by
    rw [List.nodup_cons] at nd
    have hj : j < xs.length := by simpa using h
    have hx : ¬ x = xs[j] := fun e => nd.1 (e ▸ List.getElem_mem hj)
    simp only [List.getElem_cons_succ, List.eraseIdx_cons_succ]
    rw [List.erase_cons_tail (by simpa using hx), erase_at nd.2 j hj]
theorem pop_at {ls : List Nat} (nd : ls.Nodup) (j : Int) (h0 : 0 ≤ j) (h1 : j < ls.length) : ∃ k a, seqIndex? j (encKids ls).length = some k ∧ (encKids ls)[k]? = some (.int ((a : Nat) : Int)) ∧ a ∈ ls ∧ (encKids ls).eraseIdx k = encKids (ls.erase a) := by
  have hj : j.toNat < ls.length := by omega
  refine ⟨j.toNat, ls[j.toNat], ?_, ?_, List.getElem_mem hj, ?_⟩
  · have e : (encKids ls).length = ls.length := by simp [encKids]
    rw [e]
    exact PySem.seqIndex_of h0 (by omega)
  · unfold encKids
    rw [List.getElem?_map, List.getElem?_eq_getElem hj]; rfl
  · rw [erase_at nd j.toNat hj]
    exact kids_eraseIdx ls j.toNat
theorem join_op (j : Int) (h0 : 0 ≤ j) (h3 : j < 3) : ∃ op : Str, atI ([.str "add", .str "sub", .str "xor"] : List PyData) j = some (.str op) ∧ op ∈ ops2 := by
  have h : j = 0 ∨ j = 1 ∨ j = 2 := by omega
  rcases h with rfl | rfl | rfl <;> exact ⟨_, rfl, by decide⟩
theorem kids_get (ks : List Nat) (j : Nat) (k : Nat) (h : ks[j]? = some k) : atI (encKids ks) (j : Int) = some (.int (k : Int)) := by
  have hj := (List.getElem?_eq_some_iff.mp h).1
  unfold atI ixN encKids
  rw [if_pos (by omega), if_pos (by simp; omega)]
  simp [h]
def opNames : List Str := ["num", "var", "load", "neg", "not", "add", "sub", "mul", "and", "or", "xor", "put", "set"]
def kindOk (s : Str) : Prop := nameOk s ∧ s ∉ opNames
def sp_kind : DSp := fun us M Q => ∃ g h : Int, us = [.p 0] ∧ M = [bagO g h] ∧ bagOk g h ∧ ∀ s g' h', kindOk s → bagOk g' h' → Q (.d (.str s)) [bagO g' h']
theorem kind_at (s0 : Str) (h0' : nameOk s0) (i : Int) (h0 : 0 ≤ i) (h6 : i < 6) : ∃ s : Str, atI ([.str "reg", .str "mem", .str "imm", .str "x", .str "stmt", .str s0] : List PyData) i = some (.str s) ∧ nameOk s := by
  have h : i = 0 ∨ i = 1 ∨ i = 2 ∨ i = 3 ∨ i = 4 ∨ i = 5 := by omega
  rcases h with rfl | rfl | rfl | rfl | rfl | rfl
  · exact ⟨_, rfl, by decide +kernel, by decide +kernel, by decide +kernel⟩
  · exact ⟨_, rfl, by decide +kernel, by decide +kernel, by decide +kernel⟩
  · exact ⟨_, rfl, by decide +kernel, by decide +kernel, by decide +kernel⟩
  · exact ⟨_, rfl, by decide +kernel, by decide +kernel, by decide +kernel⟩
  · exact ⟨_, rfl, by decide +kernel, by decide +kernel, by decide +kernel⟩
  · exact ⟨_, rfl, h0'⟩
theorem any_name (x : Str) (ns : List Str) : (ns.map PyData.str).any (fun z => PyData.eqv z (.str x)) = decide (x ∈ ns) := by
  induction ns with
  | nil => rfl
  | cons n ns ih =>
    rw [List.map_cons, List.any_cons, ih, eqv_s, Bool.eq_iff_iff]
    simp only [Bool.or_eq_true, decide_eq_true_eq, List.mem_cons]
    exact ⟨fun h => h.imp Eq.symm id, fun h => h.imp Eq.symm id⟩
theorem kind_q {x : Str} (h : x ∈ opNames) : kindOk (x ++ Str.ofString "q") := by
  have e : ∀ x ∈ opNames, kindOk (x ++ Str.ofString "q") := by unfold kindOk nameOk; decide +kernel
  exact e x h
def kindsOk (ks : List Str) : Prop := ks ≠ [] ∧ ks.length ≤ 5 ∧ ∀ k ∈ ks, kindOk k
def sp_kinds : DSp := fun us M Q => ∃ g h : Int, us = [.p 0] ∧ M = [bagO g h] ∧ bagOk g h ∧ ∀ ks g' h', kindsOk ks → bagOk g' h' → Q (.d (.list (ks.map PyData.str))) [bagO g' h']
theorem names_shaped {ks : List Str} (h : ∀ k ∈ ks, kindOk k) : SeqAt.shaped (.list (ks.map PyData.str)) = true := by
  have e : PyData.canLayAll0 (ks.map PyData.str) = true ∧ PyData.depthAll (ks.map PyData.str) = 0 := by
    induction ks with
    | nil => exact ⟨rfl, rfl⟩
    | cons k ks ih =>
      obtain ⟨a, b⟩ := ih fun x hx => h x (List.mem_cons_of_mem _ hx)
      have q := name_shaped (h k List.mem_cons_self).1
      simp [SeqAt.shaped] at q
      simp [PyData.canLayAll0, PyData.depthAll, a, b, q, PyData.depth]
  simp [SeqAt.shaped, PyData.canLay0, PyData.depth, e]
mutual
def Pat.good : Pat → Prop
  | .kind k => kindOk k
  | .num => True
  | .is_ w => 0 ≤ w ∧ w < 65536
  | .lss w => 0 < w ∧ w < 65536
  | .var => True
  | .op o ps => ((o ∈ ops1 ∧ ps.length = 1) ∨ (o ∈ ops2 ∧ ps.length = 2)) ∧ Pat.goods ps
def Pat.goods : List Pat → Prop
  | [] => True
  | p :: ps => p.good ∧ Pat.goods ps
end
mutual
def Pat.ops : Pat → Nat
  | .kind _ => 0
  | .op _ ps => Pat.opss ps + 1
  | _ => 1
def Pat.opss : List Pat → Nat
  | [] => 0
  | p :: ps => p.ops + Pat.opss ps
end
def leftO (l : Int) : Ob := .lst [.int l]
def sp_drawn : Nat → DSp := fun lv us M Q => ∃ (g h : Int) (ks : List Str) (deep : Nat) (left : Nat), us = [.p 0, .d (.list (ks.map PyData.str)), .d (.int (deep : Int)), .p 1] ∧ M = [bagO g h, leftO (left : Int)] ∧ bagOk g h ∧ kindsOk ks ∧ deep < lv ∧ left ≤ 8 ∧
  ∀ (p : Pat) (g' h' : Int) (left' : Nat), p.good → p.depth ≤ deep + 1 → p.ops + left' = left → bagOk g' h' → Q (.d p.enc) [bagO g' h', leftO (left' : Int)]
theorem kind_at_list (ks : List Str) (j : Int) (h0 : 0 ≤ j) (h1 : j < ks.length) : ∃ k, k ∈ ks ∧ atI (ks.map PyData.str) j = some (.str k) := by
  have hj : j.toNat < ks.length := by omega
  refine ⟨ks[j.toNat], List.getElem_mem hj, ?_⟩
  unfold atI ixN
  rw [if_pos h0, if_pos (by simp; omega)]
  show (ks.map PyData.str)[j.toNat]? = _
  simp [hj]
theorem op_at2 (i : Int) (h0 : 0 ≤ i) (h12 : i < 12) : ∃ (op : Str), atI ([.str "num", .str "var", .str "num", .str "load", .str "neg", .str "not", .str "add", .str "sub", .str "mul", .str "and", .str "or", .str "xor"] : List PyData) i = some (.str op) ∧
    (op = "num" ∨ op = "var" ∨ op ∈ ops1 ∨ op ∈ ops2) := by
  obtain ⟨op, many, h1, h2, _⟩ := op_at i h0 h12
  exact ⟨op, h1, by rcases h2 with ⟨h, _⟩ | ⟨h, _⟩ | ⟨h, _⟩ | ⟨h, _⟩ <;> simp [h]⟩
theorem encs_map (ps : List Pat) : Pat.encs ps = ps.map Pat.enc := by
  induction ps with
  | nil => rfl
  | cons p ps ih => simp [Pat.encs, ih]
theorem goods_iff (ps : List Pat) : Pat.goods ps ↔ ∀ p ∈ ps, p.good := by
  induction ps with
  | nil => simp [Pat.goods]
  | cons p ps ih => simp [Pat.goods, ih]
theorem opss_snoc (ps : List Pat) (p : Pat) : Pat.opss (ps ++ [p]) = Pat.opss ps + p.ops := by
  induction ps with
  | nil => simp [Pat.opss]
  | cons q ps ih => simp [Pat.opss, ih]; omega
theorem depths_snoc (ps : List Pat) (p : Pat) : Pat.depths (ps ++ [p]) = max (Pat.depths ps) p.depth := by
  induction ps with
  | nil => simp [Pat.depths]
  | cons q ps ih => simp only [List.cons_append, Pat.depths, ih]; omega
theorem fin_bl {g h l g' h' l' : Int} {Qu : U → List Ob → Prop} {z z' : PyData} {M' : List Ob} (e : z' = z) (q : Qu (.d z) [bagO g' h', leftO l']) : Fin' [bagO g h, leftO l] Qu (.d z') (bagO g' h' :: leftO l' :: M') := by
  subst e
  refine fin_d (show 2 ≤ (bagO g' h' :: leftO l' :: M').length by simp) (fun o ho => ?_) q
  have e : o = bagO g' h' ∨ o = leftO l' := by simpa using ho
  rcases e with rfl | rfl <;> exact trivial
/-- a pattern, a deed's perhaps -/
def Pat.top : Pat → Prop
  | .op o ps => ((o = "set" ∧ ps.length = 1) ∨ (o = "put" ∧ ps.length = 2) ∨ (o ∈ ops1 ∧ ps.length = 1) ∨ (o ∈ ops2 ∧ ps.length = 2)) ∧ Pat.goods ps
  | p => p.good
structure PatOk (p : Pat) : Prop where
  top : p.top
  dep : p.depth ≤ 5
  ops : p.ops ≤ 8
theorem top_of_good {p : Pat} (h : p.good) : p.top := by
  cases p with
  | op o ps => exact ⟨.inr (.inr h.1), h.2⟩
  | _ => exact h
def sp_pattern : DSp := fun us M Q => ∃ (g h : Int) (ks : List Str), us = [.p 0, .d (.list (ks.map PyData.str))] ∧ M = [bagO g h] ∧ bagOk g h ∧ kindsOk ks ∧ ∀ (p : Pat) (g' h' : Int), PatOk p → bagOk g' h' → Q (.d p.enc) [bagO g' h']
/-- unlike names -/
def TitlesOk (ns : List Str) : Prop := ∀ (i : Nat) (s : Str), ns[i]? = some s → nameOk s ∧ s.cps.toList.getLast? = some (97 + i)
def sp_titles : DSp := fun us M Q => ∃ (g h : Int) (many : Nat), us = [.p 0, .d (.int (many : Int))] ∧ M = [bagO g h] ∧ bagOk g h ∧ many ≤ 26 ∧ ∀ (ns : List Str) (g' h' : Int), TitlesOk ns → ns.length = many → bagOk g' h' → Q (.d (.list (ns.map PyData.str))) [bagO g' h']
theorem titles_snoc {ns : List Str} {s : Str} (h : TitlesOk ns) (h1 : nameOk s) (h2 : s.cps.toList.getLast? = some (97 + ns.length)) : TitlesOk (ns ++ [s]) := by
  intro i t ht
  by_cases hi : i < ns.length
  · rw [List.getElem?_append_left hi] at ht; exact h i t ht
  · rw [List.getElem?_append_right (by omega)] at ht
    have e : i = ns.length := by
      have := (List.getElem?_eq_some_iff.mp ht).1
      simp at this; omega
    subst e
    simp at ht; subst ht
    exact ⟨h1, h2⟩
theorem titles_nodup {ns : List Str} (h : TitlesOk ns) : ns.Nodup := by
  rw [List.nodup_iff_pairwise_ne, List.pairwise_iff_getElem]
  intro i j hi hj hij e
  have h1 := (h i ns[i] (List.getElem?_eq_getElem hi)).2
  have h2 := (h j ns[j] (List.getElem?_eq_getElem hj)).2
  rw [e, h2] at h1
  have := Option.some.inj h1
  omega
theorem cut7_app {s : Str} (hs : nameOk s) (c : Nat) (h0 : 97 ≤ c) (h1 : c ≤ 122) : nameOk (cutS s none (some 7) ++ ⟨#[c]⟩) ∧ (cutS s none (some 7) ++ ⟨#[c]⟩ : Str).cps.toList.getLast? = some c ∧ (cutS s none (some 7)).length ≤ 7 := by
  have e : (cutS s none (some 7)).cps.toList = s.cps.toList.take 7 := by
    unfold cutS
    rw [HT.sIx_none, show HT.sIx s.length s.length (some 7) = min 7 s.length from HT.sIx_nat _ _ 7]
    show List.take (min 7 s.cps.toList.length - 0) (List.drop 0 s.cps.toList) = _
    rw [Nat.sub_zero, List.drop_zero, Nat.min_comm, ← List.take_take]
    exact List.take_of_length_le (by rw [List.length_take]; omega)
  have e2 : (cutS s none (some 7) ++ ⟨#[c]⟩ : Str).cps.toList = s.cps.toList.take 7 ++ [c] := by
    rw [← e]
    exact TL.tl_append _ _
  refine ⟨⟨?_, ?_, ?_⟩, ?_, ?_⟩
  · rw [e2]; simp
  · rw [e2, List.length_append, List.length_take, List.length_singleton]; omega
  · rw [e2]; intro x hx
    rcases List.mem_append.mp hx with hx | hx
    · exact hs.2.2 x (List.mem_of_mem_take hx)
    · rw [List.mem_singleton.mp hx]; exact ⟨h0, h1⟩
  · rw [e2]; simp
  · show (cutS s none (some 7)).cps.size ≤ 7
    rw [← Array.length_toList, e, List.length_take]; omega
theorem letter_at2 (k : Nat) (h : k < 26) : atI (Str.ofString "abcdefghijklmnopqrstuvwxyz").cps.toList (k : Int) = some (97 + k) := by
  have hl : (Str.ofString "abcdefghijklmnopqrstuvwxyz").cps.toList = [97, 98, 99, 100, 101, 102, 103, 104, 105, 106, 107, 108, 109, 110, 111, 112, 113, 114, 115, 116, 117, 118, 119, 120, 121, 122] := by decide +kernel
  rw [hl]
  unfold atI ixN
  rw [if_pos (by omega), if_pos (by simp; omega)]
  have : ∀ j < 26, ([97, 98, 99, 100, 101, 102, 103, 104, 105, 106, 107, 108, 109, 110, 111, 112, 113, 114, 115, 116, 117, 118, 119, 120, 121, 122] : List Nat)[j]? = some (97 + j) := by decide +kernel
  exact this _ h
structure RuleOk (r : Rule) : Prop where
  name : nameOk r.name
  kind : kindOk r.kind
  pat : PatOk r.pat
  c0 : 0 ≤ r.cost
  c1 : r.cost ≤ 1000
  alone : ∀ k, r.pat = .kind k → 1 ≤ r.cost ∧ k ≠ r.kind
theorem enc_str {p : Pat} (h : isKind p = false) : ∃ ds, p.enc = .tuple ds := by
  obtain ⟨s, tl, e, _⟩ := enc_tup p h
  exact ⟨_, e⟩
theorem last_op : ∀ x ∈ opNames, x.cps.toList.getLast? ≠ some 122 ∧ x.cps.toList.getLast? ≠ some 121 := by decide +kernel
theorem kind7 {s : Str} (hs : nameOk s) {c : Nat} (hc : c = 122 ∨ c = 121) : kindOk (cutS s none (some 7) ++ ⟨#[c]⟩) := by
  obtain ⟨h1, h2, _⟩ := cut7_app hs c (by omega) (by omega)
  refine ⟨h1, fun h => ?_⟩
  have := last_op _ h
  rw [h2] at this
  rcases hc with rfl | rfl
  · exact this.1 rfl
  · exact this.2 rfl
theorem seven_ne {s : Str} (hs : nameOk s) (h : cutS s none (some 7) ++ ⟨#[122]⟩ = s) : s ≠ cutS s none (some 7) ++ ⟨#[121]⟩ := fun e => by
  have h1 := (cut7_app hs 122 (by omega) (by omega)).2.1
  have h2 := (cut7_app hs 121 (by omega) (by omega)).2.1
  rw [h] at h1
  rw [← e, h1] at h2
  exact absurd (Option.some.inj h2) (by decide)
def sp_rule : DSp := fun us M Q => ∃ (g h : Int) (nm : Str) (ks : List Str) (p : Pat), us = [.p 0, .d (.str nm), .d (.list (ks.map PyData.str)), .d p.enc] ∧ M = [bagO g h] ∧ bagOk g h ∧ nameOk nm ∧ kindsOk ks ∧ PatOk p ∧
  ∀ (r : Rule) (g' h' : Int), RuleOk r → r.name = nm → r.pat = p → bagOk g' h' → Q (.d r.enc) [bagO g' h']
def sp_cut : Nat → DSp := fun lv us M Q => ∃ (g h : Int) (parts : List Nd) (deed : Nd) (at_ : Nat) (ks : List Str) (deep left : Nat), us = [.p 0, .d (encWeb (parts ++ [deed])), .d (.int (at_ : Int)), .d (.list (ks.map PyData.str)), .d (.int (deep : Int)), .p 1] ∧ M = [bagO g h, leftO (left : Int)] ∧
  bagOk g h ∧ PartOk parts ∧ DeedOk parts.length deed ∧ at_ < parts.length + 1 ∧ kindsOk ks ∧ deep < lv ∧ left ≤ 8 ∧
  ∀ (p : Pat) (g' h' : Int) (left' : Nat), p.top → (at_ < parts.length → p.good) → p.depth ≤ deep + 1 → p.ops + left' = left → bagOk g' h' → Q (.d p.enc) [bagO g' h', leftO (left' : Int)]
theorem node_at (parts : List Nd) (deed : Nd) (a : Nat) (h : a < parts.length + 1) : ∃ n, (parts ++ [deed])[a]? = some n ∧ atI ((parts ++ [deed]).map Nd.enc) (a : Int) = some n.enc := by
  have h' : a < (parts ++ [deed]).length := by simp; omega
  obtain ⟨n, h1, _, h2⟩ := web_at h'
  exact ⟨n, h1, h2⟩
theorem node_ok {parts : List Nd} {deed n : Nd} {a : Nat} (hp : PartOk parts) (hd : DeedOk parts.length deed) (h : (parts ++ [deed])[a]? = some n) : (a < parts.length ∧ GoodNd a n) ∨ (a = parts.length ∧ DeedOk parts.length n) := by
  by_cases ha : a < parts.length
  · rw [List.getElem?_append_left ha] at h
    exact .inl ⟨ha, hp a n h⟩
  · rw [List.getElem?_append_right (by omega)] at h
    have : a - parts.length = 0 := by
      have := (List.getElem?_eq_some_iff.mp h).1
      simp at this; omega
    rw [this] at h
    simp at h
    subst h
    exact .inr ⟨by omega, hd⟩
/-- by what a node is cut -/
theorem cut_case {parts : List Nd} {deed n : Nd} {a : Nat} (hp : PartOk parts) (hd : DeedOk parts.length deed) (h : (parts ++ [deed])[a]? = some n) :
    (n.op = "num" ∧ ∃ w : Int, n.mark = .int w ∧ 0 ≤ w ∧ w < 65536) ∨ n.op = "var" ∨ (n.op ≠ "num" ∧ n.op ≠ "var" ∧ n.kids.length ≤ 2 ∧ (∀ k ∈ n.kids, k < parts.length) ∧
      ∀ ps : List Pat, ps.length = n.kids.length → Pat.goods ps → (Pat.op n.op ps).top ∧ (a < parts.length → (Pat.op n.op ps).good)) := by
  have one : ∀ o ∈ ops1, o ≠ "num" ∧ o ≠ "var" := by decide
  have two : ∀ o ∈ ops2, o ≠ "num" ∧ o ≠ "var" := by decide
  rcases node_ok hp hd h with ⟨ha, h⟩ | ⟨ha, h⟩
  · rcases h with ⟨h1, h2, _⟩ | ⟨h1, _⟩ | ⟨h1, h2, x, h3, h4⟩ | ⟨h1, h2, x, y, h3, h4, h5⟩
    · exact .inl ⟨h1, h2⟩
    · exact .inr (.inl h1)
    · refine .inr (.inr ⟨(one _ h1).1, (one _ h1).2, by rw [h3]; simp, by rw [h3]; simp; omega, fun ps hl hg => ?_⟩)
      rw [h3] at hl
      exact ⟨⟨.inr (.inr (.inl ⟨h1, hl⟩)), hg⟩, fun _ => ⟨.inl ⟨h1, hl⟩, hg⟩⟩
    · refine .inr (.inr ⟨(two _ h1).1, (two _ h1).2, by rw [h3]; simp, by rw [h3]; simp; omega, fun ps hl hg => ?_⟩)
      rw [h3] at hl
      exact ⟨⟨.inr (.inr (.inr ⟨h1, hl⟩)), hg⟩, fun _ => ⟨.inr ⟨h1, hl⟩, hg⟩⟩
  · rcases h with ⟨h1, h2, x, y, h3, h4, h5⟩ | ⟨h1, h2, x, h3, h4⟩
    · refine .inr (.inr ⟨by rw [h1]; decide, by rw [h1]; decide, by rw [h3]; simp, by rw [h3]; simp; omega, fun ps hl hg => ?_⟩)
      rw [h3] at hl
      exact ⟨⟨.inr (.inl ⟨h1, hl⟩), hg⟩, fun q => by omega⟩
    · refine .inr (.inr ⟨by rw [h1]; decide, by rw [h1]; decide, by rw [h3]; simp, by rw [h3]; simp; omega, fun ps hl hg => ?_⟩)
      rw [h3] at hl
      exact ⟨⟨.inl ⟨h1, hl⟩, hg⟩, fun q => by omega⟩
theorem some_at {w : Int} (w0 : 0 ≤ w) (w1 : w < 65536) (j : Int) (h0 : 0 ≤ j) (h3 : j < 3) : ∃ p : Pat, atI ([.tuple [.str "num"], .tuple [.str "num", .str "is", .int w], .tuple [.str "num", .str "below", .int (if w + 1 < 65535 then w + 1 else 65535)]] : List PyData) j = some p.enc ∧ p.good ∧ p.top ∧ p.depth = 1 ∧ p.ops = 1 := by
  have h : j = 0 ∨ j = 1 ∨ j = 2 := by omega
  rcases h with rfl | rfl | rfl
  · exact ⟨.num, rfl, trivial, trivial, rfl, rfl⟩
  · exact ⟨.is_ w, rfl, ⟨w0, w1⟩, ⟨w0, w1⟩, rfl, rfl⟩
  · have q : 0 < (if w + 1 < 65535 then w + 1 else 65535) ∧ (if w + 1 < 65535 then w + 1 else 65535) < 65536 := by split <;> omega
    exact ⟨.lss (if w + 1 < 65535 then w + 1 else 65535), rfl, q, q, rfl, rfl⟩
structure MachOk (g : Str) (rs : List Rule) : Prop where
  goal : kindOk g
  rules : ∀ r ∈ rs, RuleOk r
  names : TitlesOk (rs.map Rule.name)
def sp_fitting : DSp := fun us M Q => ∃ (g h : Int) (parts : List Nd) (deed : Nd) (many : Nat), us = [.p 0, .d (encWeb (parts ++ [deed])), .d (.int (many : Int))] ∧ M = [bagO g h] ∧ bagOk g h ∧ PartOk parts ∧ DeedOk parts.length deed ∧ parts.length ≤ 1000 ∧ many ≤ 24 ∧
  ∀ (gl : Str) (rs : List Rule) (g' h' : Int), MachOk gl rs → rs.length = many → bagOk g' h' → Q (.d (encMachine gl rs)) [bagO g' h']
/-- how many kids an op has -/
def ar (o : Str) : Nat := if o = "num" ∨ o = "var" then 0 else if o ∈ ops1 ∨ o = "set" then 1 else 2
theorem ar1 : ∀ o ∈ ops1, ar o = 1 ∧ o ≠ "num" ∧ o ≠ "var" := by decide
theorem ar2 : ∀ o ∈ ops2, ar o = 2 ∧ o ≠ "num" ∧ o ≠ "var" := by decide
theorem good_ar {l : Nat} {n : Nd} (h : GoodNd l n) : n.kids.length = ar n.op := by
  rcases h with ⟨a, _, b⟩ | ⟨a, _, b⟩ | ⟨a, _, x, b, _⟩ | ⟨a, _, x, y, b, _, _⟩
  · rw [a, b]; decide
  · rw [a, b]; decide
  · rw [(ar1 _ a).1, b]; rfl
  · rw [(ar2 _ a).1, b]; rfl
theorem deed_ar {l : Nat} {n : Nd} (h : DeedOk l n) : n.kids.length = ar n.op := by
  rcases h with ⟨a, _, x, y, b, _⟩ | ⟨a, _, x, b, _⟩
  · rw [a, b]; show 2 = ar "put"; decide
  · rw [a, b]; show 1 = ar "set"; decide
theorem top_ar {o : Str} {ps : List Pat} (h : (Pat.op o ps).top) : ps.length = ar o ∧ o ≠ "num" ∧ o ≠ "var" := by
  rcases h.1 with ⟨a, b⟩ | ⟨a, b⟩ | ⟨a, b⟩ | ⟨a, b⟩
  · rw [a, b]; decide
  · rw [a, b]; decide
  · rw [b]; have := ar1 _ a; exact ⟨this.1.symm, this.2⟩
  · rw [b]; have := ar2 _ a; exact ⟨this.1.symm, this.2⟩
mutual
theorem ok_of_good : ∀ {p : Pat}, p.good → p.ok
  | .kind _, _ => trivial
  | .num, _ => trivial
  | .is_ _, _ => trivial
  | .lss _, _ => trivial
  | .var, _ => trivial
  | .op o ps, h => ⟨by rcases h.1 with ⟨a, _⟩ | ⟨a, _⟩; exact (ar1 _ a).2.1; exact (ar2 _ a).2.1, oks_of_goods h.2⟩
theorem oks_of_goods : ∀ {ps : List Pat}, Pat.goods ps → Pat.oks ps
  | [], _ => trivial
  | _ :: _, h => ⟨ok_of_good h.1, oks_of_goods h.2⟩
end
theorem ok_of_top {p : Pat} (h : p.top) : p.ok := by
  cases p with
  | op o ps => exact ⟨(top_ar h).2.1, oks_of_goods h.2⟩
  | _ => trivial
/-- a part's size by its ops -/
theorem size_le : ∀ (p : Pat), p.top → p.size ≤ 2 * p.ops + 1 := by
  have go : ∀ n : Nat, ∀ p : Pat, p.size ≤ n → p.good → p.size ≤ 2 * p.ops + 1 := by
    intro n
    induction n with
    | zero => intro p h _; have : 1 ≤ p.size := by cases p <;> simp [Pat.size]
              omega
    | succ n ih =>
      intro p hn h
      cases p with
      | op o ps =>
        have hl : ps.length ≤ 2 := by rcases h.1 with ⟨_, e⟩ | ⟨_, e⟩ <;> omega
        simp only [Pat.size] at hn
        have q : ∀ p ∈ ps, p.size ≤ 2 * p.ops + 1 := fun p hp => ih p (by have := (all_mem hp).2.1; omega) ((goods_iff ps).mp h.2 p hp)
        match ps, hl, q with
        | [], _, _ => simp [Pat.size, Pat.sizes, Pat.ops, Pat.opss]
        | [a], _, q => have := q a (by simp); simp [Pat.size, Pat.sizes, Pat.ops, Pat.opss]; omega
        | [a, b], _, q => have := q a (by simp); have := q b (by simp); simp [Pat.size, Pat.sizes, Pat.ops, Pat.opss]; omega
      | _ => simp [Pat.size, Pat.ops]
  intro p h
  cases p with
  | op o ps =>
    have hl : ps.length ≤ 2 := by rcases h.1 with ⟨_, e⟩ | ⟨_, e⟩ | ⟨_, e⟩ | ⟨_, e⟩ <;> omega
    have q : ∀ p ∈ ps, p.size ≤ 2 * p.ops + 1 := fun p hp => go _ p (Nat.le_refl _) ((goods_iff ps).mp h.2 p hp)
    match ps, hl, q with
    | [], _, _ => simp [Pat.size, Pat.sizes, Pat.ops, Pat.opss]
    | [a], _, q => have := q a (by simp); simp [Pat.size, Pat.sizes, Pat.ops, Pat.opss]; omega
    | [a, b], _, q => have := q a (by simp); have := q b (by simp); simp [Pat.size, Pat.sizes, Pat.ops, Pat.opss]; omega
  | _ => simp [Pat.size, Pat.ops]
/-- a web of parts and a deed, as the fits' laws want it -/
theorem good_ndok {l m : Nat} {n : Nd} (h : GoodNd l n) (hl : l ≤ m) : NdOk m n where
  mark := by
    rcases h with ⟨_, ⟨w, e, _⟩, _⟩ | ⟨_, ⟨s, e, _⟩, _⟩ | ⟨_, e, _⟩ | ⟨_, e, _⟩
    · exact .inr (.inl ⟨w, e⟩)
    · exact .inr (.inr ⟨s, e⟩)
    · exact .inl e
    · exact .inl e
  num := fun q => by
    rcases h with ⟨_, ⟨w, e, _⟩, k⟩ | ⟨a, _⟩ | ⟨a, _⟩ | ⟨a, _⟩
    · exact ⟨⟨w, e⟩, k⟩
    · rw [a] at q; exact absurd q (by decide)
    · exact absurd q (ar1 _ a).2.1
    · exact absurd q (ar2 _ a).2.1
  var := fun q => by
    rcases h with ⟨a, _⟩ | ⟨_, _, k⟩ | ⟨a, _⟩ | ⟨a, _⟩
    · rw [a] at q; exact absurd q (by decide)
    · exact k
    · exact absurd q (ar1 _ a).2.2
    · exact absurd q (ar2 _ a).2.2
  kids := fun k hk => Nat.lt_of_lt_of_le (good_kids h k hk) hl
theorem deed_ndok {l : Nat} {n : Nd} (h : DeedOk l n) : NdOk (l + 1) n where
  mark := by
    rcases h with ⟨_, e, _⟩ | ⟨_, ⟨s, e, _⟩, _⟩
    · exact .inl e
    · exact .inr (.inr ⟨s, e⟩)
  num := fun q => by rcases h with ⟨a, _⟩ | ⟨a, _⟩ <;> rw [a] at q <;> exact absurd q (by decide)
  var := fun q => by rcases h with ⟨a, _⟩ | ⟨a, _⟩ <;> rw [a] at q <;> exact absurd q (by decide)
  kids := fun k hk => by
    rcases h with ⟨_, _, x, y, e, h1, h2⟩ | ⟨_, _, x, e, h1⟩ <;> rw [e] at hk <;> simp at hk <;> omega
theorem web_ndok {parts : List Nd} {deed : Nd} (hp : PartOk parts) (hd : DeedOk parts.length deed) : WebOk (parts ++ [deed]) := by
  intro n hn
  rw [List.length_append, List.length_singleton]
  rcases List.mem_append.mp hn with h | h
  · obtain ⟨i, hi, e⟩ := List.getElem_of_mem h
    exact good_ndok (hp i n (by rw [List.getElem?_eq_getElem hi, e])) (by omega)
  · rw [List.mem_singleton.mp h]; exact deed_ndok hd
def RulesT (rs : List Rule) : Prop := rs.length ≤ 1000 ∧ ∀ r ∈ rs, r.pat.top ∧ r.pat.depth ≤ 8 ∧ r.pat.size ≤ 100000

/-! how small the data are -/
theorem name_tame {s : Str} (h : nameOk s) : tame (.str s) = true := by
  have e : PyData.strOk s = true := by
    have := name_shaped h
    simpa [SeqAt.shaped, PyData.canLay0, PyData.depth] using this
  have l : s.length ≤ 8 := by show s.cps.size ≤ 8; rw [← Array.length_toList]; exact h.2.1
  simp [tame, e]; omega
theorem int_tame {i : Int} (h0 : 0 ≤ i) (h1 : i < 1000000) : tame (.int i) = true := by
  simp only [tame]; exact decide_eq_true (by omega)
theorem nat_tame {i : Nat} (h1 : i < 1000000) : tame (.int (i : Int)) = true := int_tame (by omega) (by omega)
def opStrs : List Str := ["num", "var", "load", "neg", "not", "add", "sub", "mul", "and", "or", "xor", "put", "set"]
theorem op_tame : ∀ o ∈ opStrs, tame (.str o) = true := by decide +kernel
theorem ops1_in : ∀ o ∈ ops1, o ∈ opStrs := by decide
theorem ops2_in : ∀ o ∈ ops2, o ∈ opStrs := by decide
theorem nd_tame {op : Str} {mark : PyData} {kids : List Nat} (h1 : op ∈ opStrs) (h2 : tame mark = true) (h3 : kids.length ≤ 2) (h4 : ∀ k ∈ kids, k < 1000000) : tame (Nd.enc ⟨op, mark, kids⟩) = true := by
  have e : tames (encKids kids) = true := tames_all _ fun x hx => by
    obtain ⟨k, hk, rfl⟩ := List.mem_map.mp hx
    exact nat_tame (h4 k hk)
  simp [Nd.enc, tame, tames, e, h2, len_kids] 
  exact ⟨by simpa [tame] using op_tame op h1, by omega⟩
theorem good_tame {l : Nat} {n : Nd} (hl : l < 1000000) (h : GoodNd l n) : tame n.enc = true ∧ cnt n.mark = 1 ∧ n.mark.depth = 0 ∧ n.kids.length ≤ 2 := by
  obtain ⟨op, mark, kids⟩ := n
  rcases h with ⟨a, ⟨w, b, w0, w1⟩, c⟩ | ⟨a, ⟨s, b, hs⟩, c⟩ | ⟨a, b, x, c, h1⟩ | ⟨a, b, x, y, c, h1, h2⟩ <;> dsimp only at a b c <;> subst b <;> subst c
  · exact ⟨nd_tame (by rw [a]; decide) (int_tame w0 (by omega)) (by simp) (by simp), rfl, rfl, by simp⟩
  · exact ⟨nd_tame (by rw [a]; decide) (name_tame hs) (by simp) (by simp), rfl, rfl, by simp⟩
  · exact ⟨nd_tame (ops1_in _ a) rfl (by simp) (by simp; omega), rfl, rfl, by simp⟩
  · exact ⟨nd_tame (ops2_in _ a) rfl (by simp) (by simp; omega), rfl, rfl, by simp⟩
theorem deed_tame {l : Nat} {n : Nd} (hl : l < 1000000) (h : DeedOk l n) : tame n.enc = true ∧ cnt n.mark = 1 ∧ n.mark.depth = 0 ∧ n.kids.length ≤ 2 := by
  obtain ⟨op, mark, kids⟩ := n
  rcases h with ⟨a, b, x, y, c, h1, h2⟩ | ⟨a, ⟨s, b, hs⟩, x, c, h1⟩ <;> dsimp only at a b c <;> subst b <;> subst c
  · exact ⟨nd_tame (by rw [a]; decide) rfl (by simp) (by simp; omega), rfl, rfl, by simp⟩
  · exact ⟨nd_tame (by rw [a]; decide) (name_tame hs) (by simp) (by simp; omega), rfl, rfl, by simp⟩
theorem cnt_kids (ks : List Nat) : cnts (encKids ks) = ks.length ∧ PyData.depthAll (encKids ks) = 0 := by
  induction ks with
  | nil => exact ⟨rfl, rfl⟩
  | cons k ks ih =>
    obtain ⟨a, b⟩ := ih
    refine ⟨?_, ?_⟩
    · show cnt (.int k) + cnts (encKids ks) = ks.length + 1
      rw [a]; simp [cnt]; omega
    · show max (PyData.int k).depth (PyData.depthAll (encKids ks)) = 0
      rw [b]; simp [PyData.depth]
theorem nd_cnt {n : Nd} (h1 : cnt n.mark = 1) (h2 : n.mark.depth = 0) (h3 : n.kids.length ≤ 2) : cnt n.enc ≤ 6 ∧ n.enc.depth ≤ 2 := by
  obtain ⟨a, b⟩ := cnt_kids n.kids
  simp only [Nd.enc, cnt, cnts, PyData.depth, PyData.depthAll, h1, h2, a, b]
  omega
theorem web_tame {parts : List Nd} {deed : Nd} (hp : PartOk parts) (hd : DeedOk parts.length deed) (hl : parts.length + 1 ≤ 1000) : tame (encWeb (parts ++ [deed])) = true ∧ cnt (encWeb (parts ++ [deed])) ≤ 6 * (parts.length + 1) + 1 ∧ (encWeb (parts ++ [deed])).depth ≤ 3 := by
  have all : ∀ x ∈ (parts ++ [deed]).map Nd.enc, tame x = true ∧ cnt x ≤ 6 ∧ x.depth ≤ 2 := by
    intro x hx
    obtain ⟨n, hn, rfl⟩ := List.mem_map.mp hx
    rcases List.mem_append.mp hn with h | h
    · obtain ⟨i, hi, e⟩ := List.getElem_of_mem h
      obtain ⟨a, b, c, d⟩ := good_tame (l := i) (by omega) (hp i n (by rw [List.getElem?_eq_getElem hi, e]))
      exact ⟨a, nd_cnt b c d⟩
    · rw [List.mem_singleton.mp h]
      obtain ⟨a, b, c, d⟩ := deed_tame (l := parts.length) (by omega) hd
      exact ⟨a, nd_cnt b c d⟩
  have t := tames_all _ fun x hx => (all x hx).1
  have c := cnts_le (b := 6) _ fun x hx => (all x hx).2.1
  have d := depths_le (b := 2) _ fun x hx => (all x hx).2.2
  rw [List.length_map, List.length_append, List.length_singleton] at c
  refine ⟨?_, ?_, ?_⟩
  · unfold encWeb tame
    rw [t, Bool.and_true]
    exact decide_eq_true (by simp; omega)
  · unfold encWeb cnt; omega
  · unfold encWeb PyData.depth; omega

mutual
theorem pat_tame : ∀ {p : Pat}, p.good → tame p.enc = true ∧ cnt p.enc ≤ 4 * p.size ∧ p.enc.depth ≤ p.depth
  | .kind k, h => ⟨name_tame h.1, by simp [Pat.enc, cnt, Pat.size], by simp [Pat.enc, PyData.depth]⟩
  | .num, _ => ⟨by decide +kernel, by simp [Pat.enc, cnt, cnts, Pat.size], by simp [Pat.enc, PyData.depth, PyData.depthAll, Pat.depth]⟩
  | .is_ w, h => ⟨by
      have e := int_tame h.1 (show w < 1000000 by have := h.2; omega)
      have e2 : tame (.str "num") = true := by decide +kernel
      have e3 : tame (.str "is") = true := by decide +kernel
      simp [Pat.enc, tame, tames] at e e2 e3 ⊢; exact ⟨e2, e3, e⟩, by simp [Pat.enc, cnt, cnts, Pat.size], by simp [Pat.enc, PyData.depth, PyData.depthAll, Pat.depth]⟩
  | .lss w, h => ⟨by
      have e := int_tame (show 0 ≤ w by have := h.1; omega) (show w < 1000000 by have := h.2; omega)
      have e2 : tame (.str "num") = true := by decide +kernel
      have e3 : tame (.str "below") = true := by decide +kernel
      simp [Pat.enc, tame, tames] at e e2 e3 ⊢; exact ⟨e2, e3, e⟩, by simp [Pat.enc, cnt, cnts, Pat.size], by simp [Pat.enc, PyData.depth, PyData.depthAll, Pat.depth]⟩
  | .var, _ => ⟨by decide +kernel, by simp [Pat.enc, cnt, cnts, Pat.size], by simp [Pat.enc, PyData.depth, PyData.depthAll, Pat.depth]⟩
  | .op o ps, h => by
    obtain ⟨a, b, c⟩ := pats_tame h.2
    have ho : o ∈ opStrs := by rcases h.1 with ⟨q, _⟩ | ⟨q, _⟩; exact ops1_in _ q; exact ops2_in _ q
    have hl : ps.length ≤ 2 := by rcases h.1 with ⟨_, q⟩ | ⟨_, q⟩ <;> omega
    have e := op_tame o ho
    have hl' : (Pat.encs ps).length = ps.length := by rw [encs_map, List.length_map]
    refine ⟨?_, ?_, ?_⟩
    · simp only [Pat.enc, tame, tames, a, Bool.and_true, List.length_cons, hl']
      simp only [tame] at e
      rw [e, Bool.and_true]; exact decide_eq_true (by omega)
    · simp only [Pat.enc, cnt, cnts, Pat.size]; omega
    · simp only [Pat.enc, PyData.depth, PyData.depthAll, Pat.depth]; omega
theorem pats_tame : ∀ {ps : List Pat}, Pat.goods ps → tames (Pat.encs ps) = true ∧ cnts (Pat.encs ps) ≤ 4 * Pat.sizes ps ∧ PyData.depthAll (Pat.encs ps) ≤ Pat.depths ps
  | [], _ => ⟨rfl, Nat.zero_le _, Nat.zero_le _⟩
  | p :: ps, h => by
    obtain ⟨a, b, c⟩ := pat_tame h.1
    obtain ⟨a', b', c'⟩ := pats_tame h.2
    refine ⟨by simp [Pat.encs, tames, a, a'], ?_, ?_⟩
    · simp only [Pat.encs, cnts, Pat.sizes]; omega
    · simp only [Pat.encs, PyData.depthAll, Pat.depths]; omega
end
theorem top_tame {p : Pat} (h : p.top) : tame p.enc = true ∧ cnt p.enc ≤ 4 * p.size ∧ p.enc.depth ≤ p.depth := by
  cases p with
  | op o ps =>
    obtain ⟨a, b, c⟩ := pats_tame h.2
    have ho : o ∈ opStrs := by
      rcases h.1 with ⟨q, _⟩ | ⟨q, _⟩ | ⟨q, _⟩ | ⟨q, _⟩
      · rw [q]; decide
      · rw [q]; decide
      · exact ops1_in _ q
      · exact ops2_in _ q
    have hl : ps.length ≤ 2 := by rcases h.1 with ⟨_, q⟩ | ⟨_, q⟩ | ⟨_, q⟩ | ⟨_, q⟩ <;> omega
    have e := op_tame o ho
    have hl' : (Pat.encs ps).length = ps.length := by rw [encs_map, List.length_map]
    refine ⟨?_, ?_, ?_⟩
    · simp only [Pat.enc, tame, tames, a, Bool.and_true, List.length_cons, hl']
      simp only [tame] at e
      rw [e, Bool.and_true]; exact decide_eq_true (by omega)
    · simp only [Pat.enc, cnt, cnts, Pat.size]; omega
    · simp only [Pat.enc, PyData.depth, PyData.depthAll, Pat.depth]; omega
  | kind k => exact pat_tame (p := .kind k) h
  | num => exact pat_tame (p := .num) h
  | is_ w => exact pat_tame (p := .is_ w) h
  | lss w => exact pat_tame (p := .lss w) h
  | var => exact pat_tame (p := .var) h
theorem rule_tame {r : Rule} (h : RuleOk r) : tame r.enc = true ∧ cnt r.enc ≤ 72 ∧ r.enc.depth ≤ 6 := by
  obtain ⟨a, b, c⟩ := top_tame h.pat.top
  have hs := size_le r.pat h.pat.top
  have h8 := h.pat.ops
  have h5 := h.pat.dep
  have e1 := name_tame h.name
  have e2 := name_tame h.kind.1
  have e3 := int_tame h.c0 (show r.cost < 1000000 by have := h.c1; omega)
  refine ⟨?_, ?_, ?_⟩
  · simp only [tame] at e1 e2 e3
    simp [Rule.enc, tame, tames, a] at e1 e2 e3 ⊢
    exact ⟨e1, e2, e3⟩
  · simp only [Rule.enc, cnt, cnts]; omega
  · simp only [Rule.enc, PyData.depth, PyData.depthAll]; omega
theorem mach_tame {g : Str} {rs : List Rule} (h : MachOk g rs) (hl : rs.length ≤ 24) : tame (encMachine g rs) = true ∧ cnt (encMachine g rs) ≤ 1800 ∧ (encMachine g rs).depth ≤ 8 := by
  have all : ∀ x ∈ rs.map Rule.enc, tame x = true ∧ cnt x ≤ 72 ∧ x.depth ≤ 6 := by
    intro x hx
    obtain ⟨r, hr, rfl⟩ := List.mem_map.mp hx
    exact rule_tame (h.rules r hr)
  have t := tames_all _ fun x hx => (all x hx).1
  have c := cnts_le (b := 72) _ fun x hx => (all x hx).2.1
  have d := depths_le (b := 6) _ fun x hx => (all x hx).2.2
  rw [List.length_map] at c
  have e1 := name_tame h.goal.1
  refine ⟨?_, ?_, ?_⟩
  · simp only [tame] at e1
    simp [encMachine, tame, tames, t] at e1 ⊢
    exact ⟨e1, by omega⟩
  · simp only [encMachine, cnt, cnts]; omega
  · simp only [encMachine, PyData.depth, PyData.depthAll]; omega
theorem mach_rulesT {g : Str} {rs : List Rule} (h : MachOk g rs) (hl : rs.length ≤ 24) : RulesT rs := ⟨by omega, fun r hr => by
  have q := h.rules r hr
  have := size_le r.pat q.pat.top
  have := q.pat.ops
  exact ⟨q.pat.top, by have := q.pat.dep; omega, by omega⟩⟩
theorem rulesT_ok {rs : List Rule} (h : RulesT rs) : RulesOk rs := ⟨h.1, fun r hr => ⟨ok_of_top (h.2 r hr).1, (h.2 r hr).2⟩⟩
/-! what a fit tells -/
def needOk (x : Nat × Str) : Prop := x.1 < 1000000 ∧ kindOk x.2
theorem mark_tame {parts : List Nd} {deed n : Nd} {a : Nat} (hp : PartOk parts) (hd : DeedOk parts.length deed) (h : (parts ++ [deed])[a]? = some n) : ∀ m ∈ marks0 n, tame m = true ∧ cnt m ≤ 1 ∧ m.depth ≤ 0 := by
  intro m hm
  have key : n.mark = .none ∨ (∃ w : Int, n.mark = .int w ∧ 0 ≤ w ∧ w < 65536) ∨ ∃ s, n.mark = .str s ∧ nameOk s := by
    rcases node_ok hp hd h with ⟨_, h⟩ | ⟨_, h⟩
    · rcases h with ⟨_, h, _⟩ | ⟨_, h, _⟩ | ⟨_, h, _⟩ | ⟨_, h, _⟩
      · exact .inr (.inl h)
      · exact .inr (.inr h)
      · exact .inl h
      · exact .inl h
    · rcases h with ⟨_, h, _⟩ | ⟨_, h, _⟩
      · exact .inl h
      · exact .inr (.inr h)
  unfold marks0 at hm
  rcases key with e | ⟨w, e, w0, w1⟩ | ⟨s, e, hs⟩
  · rw [e] at hm; cases hm
  · rw [e] at hm; rw [List.mem_singleton.mp hm]; exact ⟨int_tame w0 (by omega), Nat.le_refl _, Nat.le_refl _⟩
  · rw [e] at hm; rw [List.mem_singleton.mp hm]; exact ⟨name_tame hs, Nat.le_refl _, Nat.le_refl _⟩
mutual
theorem fit_tame {parts : List Nd} {deed : Nd} (hp : PartOk parts) (hd : DeedOk parts.length deed) (hl : parts.length < 999999) : ∀ (p : Pat) (a : Nat) (ns : List (Nat × Str)) (ms : List PyData), p.good → a < parts.length + 1 → fit (parts ++ [deed]) p a = some (ns, ms) → (∀ x ∈ ns, needOk x) ∧ ∀ m ∈ ms, tame m = true ∧ cnt m ≤ 1 ∧ m.depth ≤ 0
  | .kind k, a, ns, ms, hg, ha, h => by
    simp [fit] at h
    obtain ⟨rfl, rfl⟩ := h
    exact ⟨fun x hx => by rw [List.mem_singleton.mp hx]; exact ⟨by show a < _; omega, hg⟩, fun m hm => (nomatch hm)⟩
  | .op o ps, a, ns, ms, hg, ha, h => by
    unfold fit at h
    split at h
    · cases h
    · rename_i n hn
      split at h
      · split at h
        · cases h
        · rename_i n2 m2 e
          have hk : ∀ k ∈ n.kids, k < parts.length + 1 := by
            have q := (web_ndok hp hd n (List.mem_of_getElem? hn)).kids
            rw [List.length_append, List.length_singleton] at q
            exact q
          obtain ⟨h1, h2⟩ := fits_tame hp hd hl ps n.kids n2 m2 hg.2 hk e
          cases h
          exact ⟨h1, fun m hm => (List.mem_append.mp hm).elim (mark_tame hp hd hn m) (h2 m)⟩
      · cases h
  | .num, a, ns, ms, hg, ha, h => lf_tame hp hd .num a ns ms (by unfold fit at h; exact h)
  | .is_ w, a, ns, ms, hg, ha, h => lf_tame hp hd (.is_ w) a ns ms (by unfold fit at h; exact h)
  | .lss w, a, ns, ms, hg, ha, h => lf_tame hp hd (.lss w) a ns ms (by unfold fit at h; exact h)
  | .var, a, ns, ms, hg, ha, h => lf_tame hp hd .var a ns ms (by unfold fit at h; exact h)
theorem lf_tame {parts : List Nd} {deed : Nd} (hp : PartOk parts) (hd : DeedOk parts.length deed) (p : Pat) (a : Nat) (ns : List (Nat × Str)) (ms : List PyData) (h : leafFit (parts ++ [deed]) p a = some (ns, ms)) : (∀ x ∈ ns, needOk x) ∧ ∀ m ∈ ms, tame m = true ∧ cnt m ≤ 1 ∧ m.depth ≤ 0 := by
  unfold leafFit at h
  split at h
  · cases h
  · rename_i n hn
    split at h
    · cases h
      exact ⟨fun x hx => (nomatch hx), mark_tame hp hd hn⟩
    · cases h
theorem fits_tame {parts : List Nd} {deed : Nd} (hp : PartOk parts) (hd : DeedOk parts.length deed) (hl : parts.length < 999999) : ∀ (ps : List Pat) (ks : List Nat) (ns : List (Nat × Str)) (ms : List PyData), Pat.goods ps → (∀ k ∈ ks, k < parts.length + 1) → fitAll (parts ++ [deed]) ps ks = some (ns, ms) → (∀ x ∈ ns, needOk x) ∧ ∀ m ∈ ms, tame m = true ∧ cnt m ≤ 1 ∧ m.depth ≤ 0
  | [], ks, ns, ms, hg, hk, h => by simp [fitAll] at h; obtain ⟨rfl, rfl⟩ := h; exact ⟨fun x hx => (nomatch hx), fun x hx => (nomatch hx)⟩
  | p :: ps, [], ns, ms, hg, hk, h => by simp [fitAll] at h; obtain ⟨rfl, rfl⟩ := h; exact ⟨fun x hx => (nomatch hx), fun x hx => (nomatch hx)⟩
  | p :: ps, k :: ks, ns, ms, hg, hk, h => by
    unfold fitAll at h
    split at h
    · cases h
    · rename_i n1 m1 e1
      obtain ⟨a1, a2⟩ := fit_tame hp hd hl p k n1 m1 hg.1 (hk k List.mem_cons_self) e1
      split at h
      · cases h
      · rename_i n2 m2 e2
        obtain ⟨b1, b2⟩ := fits_tame hp hd hl ps ks n2 m2 hg.2 (fun x hx => hk x (List.mem_cons_of_mem _ hx)) e2
        cases h
        exact ⟨fun x hx => (List.mem_append.mp hx).elim (a1 x) (b1 x), fun x hx => (List.mem_append.mp hx).elim (a2 x) (b2 x)⟩
end
theorem topfit_tame {parts : List Nd} {deed : Nd} (hp : PartOk parts) (hd : DeedOk parts.length deed) (hl : parts.length < 999999) {p : Pat} {a : Nat} {ns : List (Nat × Str)} {ms : List PyData} (hg : p.top) (ha : a < parts.length + 1) (h : fit (parts ++ [deed]) p a = some (ns, ms)) : (∀ x ∈ ns, needOk x) ∧ ∀ m ∈ ms, tame m = true ∧ cnt m ≤ 1 ∧ m.depth ≤ 0 := by
  cases p with
  | op o ps =>
    unfold fit at h
    split at h
    · cases h
    · rename_i n hn
      split at h
      · split at h
        · cases h
        · rename_i n2 m2 e
          have hk : ∀ k ∈ n.kids, k < parts.length + 1 := by
            have q := (web_ndok hp hd n (List.mem_of_getElem? hn)).kids
            rw [List.length_append, List.length_singleton] at q
            exact q
          obtain ⟨h1, h2⟩ := fits_tame hp hd hl ps n.kids n2 m2 hg.2 hk e
          cases h
          exact ⟨h1, fun m hm => (List.mem_append.mp hm).elim (mark_tame hp hd hn m) (h2 m)⟩
      · cases h
  | kind k => exact fit_tame hp hd hl (.kind k) a ns ms hg ha h
  | num => exact fit_tame hp hd hl .num a ns ms hg ha h
  | is_ w => exact fit_tame hp hd hl (.is_ w) a ns ms hg ha h
  | lss w => exact fit_tame hp hd hl (.lss w) a ns ms hg ha h
  | var => exact fit_tame hp hd hl .var a ns ms hg ha h
theorem fitsD_tameR {parts : List Nd} {deed : Nd} {rs : List Rule} {a : Nat} (hp : PartOk parts) (hd : DeedOk parts.length deed) (hl : parts.length < 999999) (hm : ∀ r ∈ rs, RuleOk r) (hr : rs.length ≤ 24) (ha : a < parts.length + 1) :
    tame (.list (fitsD (parts ++ [deed]) a rs)) = true ∧ (PyData.list (fitsD (parts ++ [deed]) a rs)).depth ≤ 4 ∧ (fitsD (parts ++ [deed]) a rs).length ≤ 24 := by
  have all : ∀ x ∈ fitsD (parts ++ [deed]) a rs, tame x = true ∧ x.depth ≤ 3 := by
    intro x hx
    unfold fitsD at hx
    obtain ⟨l, hl1, hx⟩ := List.mem_flatten.mp hx
    obtain ⟨r, hr1, rfl⟩ := List.mem_map.mp hl1
    have q := hm r hr1
    unfold fit1 at hx
    split at hx
    · cases hx
    · rename_i ns ms e
      rw [List.mem_singleton.mp hx]
      obtain ⟨h1, h2⟩ := topfit_tame hp hd hl q.pat.top ha e
      obtain ⟨z1, z2⟩ := fit_size _ _ _ _ _ e
      have hs := size_le r.pat q.pat.top
      have h8 := q.pat.ops
      have t1 : tames (ns.map encNeed) = true := tames_all _ fun y hy => by
        obtain ⟨z, hz, rfl⟩ := List.mem_map.mp hy
        obtain ⟨n1, n2⟩ := h1 z hz
        have e1 := nat_tame n1
        have e2 := name_tame n2.1
        simp only [tame] at e1 e2
        simp [encNeed, tame, tames] at e1 e2 ⊢; exact ⟨e1, e2⟩
      have d1 : PyData.depthAll (ns.map encNeed) ≤ 1 := depths_le _ fun y hy => by
        obtain ⟨z, hz, rfl⟩ := List.mem_map.mp hy
        simp [encNeed, PyData.depth, PyData.depthAll]
      have t2 : tames ms = true := tames_all _ fun y hy => (h2 y hy).1
      have d2 : PyData.depthAll ms ≤ 0 := depths_le _ fun y hy => (h2 y hy).2.2
      have e1 := name_tame q.name
      refine ⟨?_, ?_⟩
      · simp only [tame] at e1
        simp [tame, tames, t1, t2] at e1 ⊢
        exact ⟨e1, by omega, by omega⟩
      · simp only [PyData.depth, PyData.depthAll]; omega
  have hlen : (fitsD (parts ++ [deed]) a rs).length ≤ rs.length := by
    unfold fitsD
    clear all hm hr
    induction rs with
    | nil => simp
    | cons r rs ih =>
      have : (fit1 (parts ++ [deed]) a r).length ≤ 1 := by unfold fit1; split <;> simp
      simp at ih ⊢; omega
  have t := tames_all _ fun x hx => (all x hx).1
  have d := depths_le (b := 3) _ fun x hx => (all x hx).2
  refine ⟨by simp only [tame, t, Bool.and_true]; exact decide_eq_true (by omega), by simp only [PyData.depth]; omega, by omega⟩
theorem fitsD_tame {parts : List Nd} {deed : Nd} {rs : List Rule} {g : Str} {a : Nat} (hp : PartOk parts) (hd : DeedOk parts.length deed) (hl : parts.length < 999999) (hm : MachOk g rs) (hr : rs.length ≤ 24) (ha : a < parts.length + 1) :
    tame (.list (fitsD (parts ++ [deed]) a rs)) = true ∧ (PyData.list (fitsD (parts ++ [deed]) a rs)).depth ≤ 4 ∧ (fitsD (parts ++ [deed]) a rs).length ≤ 24 :=
  fitsD_tameR hp hd hl hm.rules hr ha

/-- f carries nodes of one web to nodes of another one, kids to kids -/
structure Emb (w1 w2 : List Nd) (D : Nat → Prop) (f : Nat → Nat) : Prop where
  at_ : ∀ i, D i → ∃ n, w1[i]? = some n ∧ w2[f i]? = some ⟨n.op, n.mark, n.kids.map f⟩ ∧ ∀ k ∈ n.kids, D k
def renF (f : Nat → Nat) : Fit → Fit
  | none => none
  | some (ns, ms) => some (ns.map fun x => (f x.1, x.2), ms)
theorem isFit_kids (p : Pat) (n : Nd) (ks : List Nat) : isFit p ⟨n.op, n.mark, ks⟩ = isFit p n := by cases p <;> rfl
theorem marks0_kids (n : Nd) (ks : List Nat) : marks0 ⟨n.op, n.mark, ks⟩ = marks0 n := rfl
theorem leaf_emb {w1 w2 : List Nd} {D : Nat → Prop} {f : Nat → Nat} (E : Emb w1 w2 D f) (p : Pat) (a : Nat) (h : D a) : leafFit w2 p (f a) = renF f (leafFit w1 p a) := by
  obtain ⟨n, e1, e2, hk⟩ := E.at_ a h
  unfold leafFit
  rw [e1, e2]
  simp only [isFit_kids, marks0_kids]
  split <;> rfl
mutual
theorem fit_emb {w1 w2 : List Nd} {D : Nat → Prop} {f : Nat → Nat} (E : Emb w1 w2 D f) : ∀ (p : Pat) (a : Nat), D a → fit w2 p (f a) = renF f (fit w1 p a)
  | .kind k, a, h => by simp only [fit, renF, List.map_cons, List.map_nil]
  | .op o ps, a, h => by
    obtain ⟨n, e1, e2, hk⟩ := E.at_ a h
    simp only [fit]
    rw [e1, e2]
    simp only [marks0_kids]
    rw [fitAll_emb E ps n.kids hk]
    split
    · cases fitAll w1 ps n.kids with
      | none => rfl
      | some q => rfl
    · rfl
  | .num, a, h => by simp only [fit]; exact leaf_emb E _ a h
  | .is_ w, a, h => by simp only [fit]; exact leaf_emb E _ a h
  | .lss w, a, h => by simp only [fit]; exact leaf_emb E _ a h
  | .var, a, h => by simp only [fit]; exact leaf_emb E _ a h
theorem fitAll_emb {w1 w2 : List Nd} {D : Nat → Prop} {f : Nat → Nat} (E : Emb w1 w2 D f) : ∀ (ps : List Pat) (ks : List Nat), (∀ k ∈ ks, D k) → fitAll w2 ps (ks.map f) = renF f (fitAll w1 ps ks)
  | [], ks, h => by simp only [fitAll, renF, List.map_nil]
  | p :: ps, [], h => by simp only [fitAll, renF, List.map_nil]
  | p :: ps, k :: ks, h => by
    rw [List.map_cons]
    simp only [fitAll]
    rw [fit_emb E p k (h k List.mem_cons_self), fitAll_emb E ps ks fun x hx => h x (List.mem_cons_of_mem _ hx)]
    cases fit w1 p k with
    | none => rfl
    | some q =>
      cases fitAll w1 ps ks with
      | none => rfl
      | some r => simp [renF]
end
/-- rows of fits: name, needs, marks -/
abbrev Row := Str × List (Nat × Str) × List PyData
def Row.encR (x : Row) : PyData := .tuple [.str x.1, .tuple (x.2.1.map encNeed), .tuple x.2.2]
def row1 (web : List Nd) (a : Nat) (r : Rule) : List Row := match fit web r.pat a with
  | none => []
  | some (ns, ms) => [(r.name, ns, ms)]
def rowsL (web : List Nd) (a : Nat) (rs : List Rule) : List Row := (rs.map (row1 web a)).flatten
def renR (f : Nat → Nat) (x : Row) : Row := (x.1, x.2.1.map (fun y => (f y.1, y.2)), x.2.2)
theorem fit1_row (web : List Nd) (a : Nat) (r : Rule) : fit1 web a r = (row1 web a r).map Row.encR := by
  unfold fit1 row1
  split <;> rfl
theorem fitsD_rows (web : List Nd) (a : Nat) : ∀ rs : List Rule, fitsD web a rs = (rowsL web a rs).map Row.encR
  | [] => rfl
  | r :: rs => by
    have ih := fitsD_rows web a rs
    unfold fitsD rowsL at *
    rw [List.map_cons, List.map_cons, List.flatten_cons, List.flatten_cons, List.map_append, ih, fit1_row]
theorem rows_emb {w1 w2 : List Nd} {D : Nat → Prop} {f : Nat → Nat} (E : Emb w1 w2 D f) {a : Nat} (h : D a) : ∀ rs : List Rule, rowsL w2 (f a) rs = (rowsL w1 a rs).map (renR f)
  | [] => rfl
  | r :: rs => by
    have ih := rows_emb E h rs
    unfold rowsL at *
    rw [List.map_cons, List.map_cons, List.flatten_cons, List.flatten_cons, List.map_append, ih]
    congr 1
    unfold row1
    rw [fit_emb E r.pat a h]
    cases fit w1 r.pat a with
    | none => rfl
    | some q => rfl
def kidsAt (web : List Nd) (j : Nat) : List Nat := match web[j]? with
  | some n => n.kids
  | none => []
def KidsLt (web : List Nd) : Prop := ∀ j, (∀ k ∈ kidsAt web j, k < j) ∧ (kidsAt web j).length ≤ 2
def ndMap (L : List Nat) (n : Nd) : Nd := ⟨n.op, n.mark, n.kids.map fun k => L.idxOf k⟩
def ndAt (web : List Nd) (i : Nat) : Nd := web.getD i ⟨"", .none, []⟩
theorem at_kids {web : List Nd} {i : Nat} (h : i < web.length) : (ndAt web i).kids = kidsAt web i ∧ web[i]? = some (ndAt web i) := by
  unfold ndAt kidsAt
  rw [List.getD_eq_getElem?_getD, List.getElem?_eq_getElem h]
  exact ⟨rfl, rfl⟩
theorem idx_app {L : List Nat} {x k : Nat} (h : k ∈ L) : (L ++ [x]).idxOf k = L.idxOf k := by rw [List.idxOf_append, if_pos h]
theorem mapc_go {α : Type} {G : List Ob → Prop} {M0 : List Ob} (hG : G M0) (ks : List α) (enc f : α → PyData) {ρ : Rho} {wg : WG} {k : WK} {Q : List U → List Ob → Prop}
    (h1 : ∀ (x : α) (acc : List PyData) (R : List U → List Ob → Prop), x ∈ ks → acc.length < ks.length → R ((acc ++ [f x]).map U.d) M0 → wg (.d (enc x)) ρ M0 fun ρ1 M1 => k ρ1 M1 (acc.map U.d) R)
    (h0 : Q ((ks.map f).map U.d) M0) : wLcGo G wg k ρ ((ks.map enc).map U.d) [] M0 Q := by
  refine wLcGo_rec (fun us acc M => ∃ pre suf : List α, acc = (pre.map f).map U.d ∧ us = (suf.map enc).map U.d ∧ M = M0 ∧ ks = pre ++ suf) ?_ ?_ _ _ _ ⟨[], ks, rfl, rfl, rfl, rfl⟩
  · rintro acc M ⟨pre, suf, rfl, h2, rfl, h3⟩
    cases suf with
    | cons c cs => cases h2
    | nil => rw [List.append_nil] at h3; subst h3; exact ⟨hG, h0⟩
  · rintro u us ih acc M ⟨pre, suf, rfl, h2, rfl, h3⟩
    cases suf with
    | nil => cases h2
    | cons c cs =>
      rw [List.map_cons, List.map_cons] at h2
      injection h2 with e1 e2
      subst e1; subst e2
      refine ⟨hG, h1 c (pre.map f) _ (by rw [h3]; simp) (by rw [h3]; simp) (ih _ _ ⟨pre ++ [c], cs, by simp, rfl, rfl, by rw [h3]; simp⟩)⟩
def kvL (L : List Nat) : List (Key × PyData) := L.map fun (i : Nat) => ((.inl (i : Int) : Key), PyData.int ((L.idxOf i : Nat) : Int))
theorem kvL_snoc {L : List Nat} {x : Nat} (h : x ∉ L) : putD (kvL L) (.inl (x : Int)) (.int ((L.length : Nat) : Int)) = kvL (L ++ [x]) := by
  have hn : ¬ ((kvL L).any fun kv => decide (kv.1 = (.inl (x : Int) : Key))) = true := by
    rw [List.any_eq_true]
    rintro ⟨p, hp, e⟩
    obtain ⟨i, hi, rfl⟩ := List.mem_map.mp hp
    have e2 : (.inl (i : Int) : Key) = .inl (x : Int) := of_decide_eq_true e
    have e3 : (i : Int) = (x : Int) := Sum.inl.inj e2
    exact h (by rw [← Int.ofNat_inj.mp e3]; exact hi)
  unfold putD
  rw [if_neg hn]
  unfold kvL
  rw [List.map_append]
  congr 1
  · exact List.map_congr_left fun i hi => by rw [idx_app hi]
  · have e : (L ++ [x]).idxOf x = L.length := by rw [List.idxOf_append, if_neg h]; simp
    show [_] = [((.inl (x : Int) : Key), PyData.int (((L ++ [x]).idxOf x : Nat) : Int))]
    rw [e]
theorem ndAt_enc {web : List Nd} {i : Nat} (h : i < web.length) : atI (web.map Nd.enc) (i : Int) = some (.tuple [.str (ndAt web i).op, (ndAt web i).mark, .tuple (encKids (kidsAt web i))]) := by
  obtain ⟨n, h1, _, h3⟩ := web_at h
  obtain ⟨e1, e2⟩ := at_kids h
  rw [e2] at h1
  cases h1
  rw [h3, Nd.enc, e1]
theorem kvL_get {L : List Nat} {k : Nat} (h : k ∈ L) : valD (kvL L) (.inl (k : Int)) = some (.int ((L.idxOf k : Nat) : Int)) := by
  have gen : ∀ (l : List Nat), k ∈ l → valD (l.map fun (i : Nat) => ((.inl (i : Int) : Key), PyData.int ((L.idxOf i : Nat) : Int))) (.inl (k : Int)) = some (.int ((L.idxOf k : Nat) : Int)) := fun l => by
    induction l with
    | nil => intro h; cases h
    | cons a l ih =>
      intro h
      rw [List.map_cons]
      unfold valD at ih ⊢
      rw [List.find?_cons]
      by_cases e : a = k
      · subst e; rw [decide_eq_true rfl]; rfl
      · rw [decide_eq_false (fun q => e (Int.ofNat_inj.mp (Sum.inl.inj q)))]
        exact ih ((List.mem_cons.mp h).resolve_left fun q => e q.symm)
  exact gen L h

mutual
theorem fit_needs {w1 w2 : List Nd} {D : Nat → Prop} {f : Nat → Nat} (E : Emb w1 w2 D f) : ∀ (p : Pat) (a : Nat), D a → ∀ ns ms, fit w1 p a = some (ns, ms) → ∀ x ∈ ns, D x.1
  | .kind k, a, h, ns, ms, e => by
    simp only [fit, Option.some.injEq, Prod.mk.injEq] at e
    rw [← e.1]; intro x hx
    rw [List.mem_singleton.mp hx]; exact h
  | .op o ps, a, h, ns, ms, e => by
    obtain ⟨n, e1, e2, hk⟩ := E.at_ a h
    unfold fit at e
    rw [e1] at e
    simp only at e
    split at e
    · cases hf : fitAll w1 ps n.kids with
      | none => rw [hf] at e; cases e
      | some q =>
        rw [hf] at e
        cases e
        exact fitAll_needs E ps n.kids hk _ _ hf
    · cases e
  | .num, a, h, ns, ms, e => leaf_needs (by unfold fit at e; exact e)
  | .is_ w, a, h, ns, ms, e => leaf_needs (by unfold fit at e; exact e)
  | .lss w, a, h, ns, ms, e => leaf_needs (by unfold fit at e; exact e)
  | .var, a, h, ns, ms, e => leaf_needs (by unfold fit at e; exact e)
theorem leaf_needs {w1 : List Nd} {D : Nat → Prop} {p : Pat} {a : Nat} {ns : List (Nat × Str)} {ms : List PyData} (e : leafFit w1 p a = some (ns, ms)) : ∀ x ∈ ns, D x.1 := by
  unfold leafFit at e
  split at e
  · cases e
  · split at e
    · cases e; intro x hx; cases hx
    · cases e
theorem fitAll_needs {w1 w2 : List Nd} {D : Nat → Prop} {f : Nat → Nat} (E : Emb w1 w2 D f) : ∀ (ps : List Pat) (ks : List Nat), (∀ k ∈ ks, D k) → ∀ ns ms, fitAll w1 ps ks = some (ns, ms) → ∀ x ∈ ns, D x.1
  | [], ks, h, ns, ms, e => by simp only [fitAll, Option.some.injEq, Prod.mk.injEq] at e; rw [← e.1]; intro x hx; cases hx
  | p :: ps, [], h, ns, ms, e => by simp only [fitAll, Option.some.injEq, Prod.mk.injEq] at e; rw [← e.1]; intro x hx; cases hx
  | p :: ps, k :: ks, h, ns, ms, e => by
    unfold fitAll at e
    cases hf : fit w1 p k with
    | none => rw [hf] at e; cases e
    | some q =>
      obtain ⟨n1, m1⟩ := q
      rw [hf] at e
      cases hf2 : fitAll w1 ps ks with
      | none => rw [hf2] at e; cases e
      | some q2 =>
        obtain ⟨n2, m2⟩ := q2
        rw [hf2] at e
        cases e
        intro x hx
        rcases List.mem_append.mp hx with hx | hx
        · exact fit_needs E p k (h k List.mem_cons_self) _ _ hf x hx
        · exact fitAll_needs E ps ks (fun y hy => h y (List.mem_cons_of_mem _ hy)) _ _ hf2 x hx
end
theorem rputD_new {kvs : List (Key × PyData)} {k : Key} {d : PyData} (h : k ∉ kvs.map (·.1)) : putD kvs k d = kvs ++ [(k, d)] := by
  unfold putD
  rw [if_neg]
  rw [List.any_eq_true]
  rintro ⟨p, hp, e⟩
  exact h (List.mem_map.mpr ⟨p, hp, of_decide_eq_true e⟩)
theorem rmerge_nodup : ∀ (more kvs : List (Key × PyData)), (kvs.map (·.1) ++ more.map (·.1)).Nodup → mergeD kvs more = kvs ++ more
  | [], kvs, _ => by simp [mergeD]
  | (k, d) :: more, kvs, h => by
    have h1 : k ∉ kvs.map (·.1) := fun z => by
      have := (List.nodup_append.mp h).2.2 k z k (by simp)
      exact this rfl
    have e : mergeD kvs ((k, d) :: more) = mergeD (putD kvs k d) more := rfl
    rw [e, rputD_new h1, rmerge_nodup more _ (by rw [List.map_append]; simpa [List.append_assoc] using h), List.append_assoc]
    rfl
theorem web_kidslt {parts : List Nd} {deed : Nd} (hp : PartOk parts) (hd : DeedOk parts.length deed) : KidsLt (parts ++ [deed]) := by
  intro j
  unfold kidsAt
  by_cases h : j < parts.length
  · rw [List.getElem?_append_left h, List.getElem?_eq_getElem h]
    have g := hp j _ (List.getElem?_eq_getElem h)
    refine ⟨good_kids g, ?_⟩
    rcases g with ⟨_, _, e⟩ | ⟨_, _, e⟩ | ⟨_, _, a, e, _⟩ | ⟨_, _, a, b, e, _, _⟩ <;> simp only [e] <;> simp
  · by_cases h2 : j = parts.length
    · subst h2
      rw [List.getElem?_append_right (Nat.le_refl _), Nat.sub_self]
      show (∀ k ∈ deed.kids, k < parts.length) ∧ deed.kids.length ≤ 2
      rcases hd with ⟨_, _, a, b, e, h1, h2⟩ | ⟨_, _, a, e, h1⟩ <;> rw [e] <;> simp <;> omega
    · rw [List.getElem?_append_right (by omega), List.getElem?_eq_none (by simp; omega)]
      exact ⟨fun k hk => (nomatch hk), Nat.zero_le _⟩
theorem rtames_mem : ∀ {xs : List PyData}, tames xs = true → ∀ x ∈ xs, tame x = true
  | [], _ => fun x hx => (nomatch hx)
  | y :: ys, h => fun x hx => by
    have h' : tame y = true ∧ tames ys = true := by simpa [tames] using h
    rcases List.mem_cons.mp hx with rfl | hx
    · exact h'.1
    · exact rtames_mem h'.2 x hx
theorem encNeed_dep (ns : List (Nat × Str)) : PyData.depthAll (ns.map encNeed) ≤ 1 := depths_le _ fun y hy => by
  obtain ⟨z, hz, rfl⟩ := List.mem_map.mp hy
  simp [encNeed, PyData.depth, PyData.depthAll]
theorem row_ren {f : Nat → Nat} {x : Row} (hf : ∀ y ∈ x.2.1, f y.1 < 1000000) (ht : tame x.encR = true) (hd : x.encR.depth ≤ 3) : tame (renR f x).encR = true ∧ (renR f x).encR.depth ≤ 3 := by
  obtain ⟨nm, ns, ms⟩ := x
  simp only [Row.encR, tame, tames, List.length_cons, List.length_nil, Bool.and_eq_true, Bool.and_true, decide_eq_true_eq] at ht
  have hd' : max 0 (max (PyData.depthAll (ns.map encNeed) + 1) (max (PyData.depthAll ms + 1) 0)) + 1 ≤ 3 := by
    simpa [Row.encR, PyData.depth, PyData.depthAll] using hd
  obtain ⟨h0, h1, ⟨h2, h3⟩, h4, h5⟩ := ht
  have t1 : tames ((ns.map fun y => (f y.1, y.2)).map encNeed) = true := tames_all _ fun y hy => by
    obtain ⟨z, hz, rfl⟩ := List.mem_map.mp hy
    obtain ⟨u, hu, rfl⟩ := List.mem_map.mp hz
    have e1 := nat_tame (hf u hu)
    have e2 : tame (encNeed u) = true := rtames_mem h3 _ (List.mem_map.mpr ⟨u, hu, rfl⟩)
    simp [encNeed, tame, tames] at e1 e2 ⊢
    exact ⟨e1, e2.2⟩
  have d1 := encNeed_dep (ns.map fun y => (f y.1, y.2))
  refine ⟨?_, ?_⟩
  · simp only [renR, Row.encR, tame, tames, List.length_cons, List.length_nil, t1, Bool.and_eq_true, Bool.and_true, decide_eq_true_eq]
    exact ⟨h0, h1, by simpa using h2, h4, h5⟩
  · simp only [renR, Row.encR, PyData.depth, PyData.depthAll]; omega
theorem dep_mem : ∀ {xs : List PyData}, ∀ x ∈ xs, x.depth ≤ PyData.depthAll xs
  | [], x, hx => (nomatch hx)
  | y :: ys, x, hx => by
    rcases List.mem_cons.mp hx with rfl | hx
    · simp only [PyData.depthAll]; omega
    · have := dep_mem x hx
      simp only [PyData.depthAll]; omega
theorem ren_tame {parts : List Nd} {deed : Nd} {rs : List Rule} {a : Nat} {f : Nat → Nat} (hp : PartOk parts) (hd : DeedOk parts.length deed) (hl : parts.length < 999999) (hr : ∀ r ∈ rs, RuleOk r) (h24 : rs.length ≤ 24) (ha : a < parts.length + 1)
    (hf : ∀ x ∈ rowsL (parts ++ [deed]) a rs, ∀ y ∈ x.2.1, f y.1 < 1000000) :
    tame (.list (((rowsL (parts ++ [deed]) a rs).map (renR f)).map Row.encR)) = true ∧ (PyData.list (((rowsL (parts ++ [deed]) a rs).map (renR f)).map Row.encR)).depth ≤ 4 ∧ (rowsL (parts ++ [deed]) a rs).length ≤ 24 := by
  obtain ⟨t1, t2, t3⟩ := fitsD_tameR (rs := rs) hp hd hl hr h24 ha
  rw [fitsD_rows] at t1 t2 t3
  rw [List.length_map] at t3
  have all : ∀ z ∈ ((rowsL (parts ++ [deed]) a rs).map (renR f)).map Row.encR, tame z = true ∧ z.depth ≤ 3 := fun z hz => by
    obtain ⟨y, hy, rfl⟩ := List.mem_map.mp hz
    obtain ⟨x, hx, rfl⟩ := List.mem_map.mp hy
    have hm : x.encR ∈ (rowsL (parts ++ [deed]) a rs).map Row.encR := List.mem_map.mpr ⟨x, hx, rfl⟩
    have h1 : tames ((rowsL (parts ++ [deed]) a rs).map Row.encR) = true := by
      simp only [tame, Bool.and_eq_true] at t1; exact t1.2
    have h2 := dep_mem _ hm
    have h3 : PyData.depthAll ((rowsL (parts ++ [deed]) a rs).map Row.encR) + 1 ≤ 4 := t2
    exact row_ren (hf x hx) (rtames_mem h1 _ hm) (by omega)
  have t := tames_all _ fun x hx => (all x hx).1
  have d := depths_le (b := 3) _ fun x hx => (all x hx).2
  refine ⟨by simp only [tame, t, Bool.and_true]; exact decide_eq_true (by simp; omega), by simp only [PyData.depth]; omega, t3⟩
theorem rules_okR {rs : List Rule} (h : ∀ r ∈ rs, RuleOk r) (hl : rs.length ≤ 24) : RulesOk rs := rulesT_ok ⟨by omega, fun r hr => by
  have q := h r hr
  have := size_le r.pat q.pat.top
  have := q.pat.ops
  exact ⟨q.pat.top, by have := q.pat.dep; omega, by omega⟩⟩
theorem rows_len {web : List Nd} {a : Nat} {rs : List Rule} (h : RulesOk rs) : ∀ x ∈ rowsL web a rs, x.2.1.length ≤ 100000 := by
  intro x hx
  unfold rowsL at hx
  obtain ⟨l, hl1, hx⟩ := List.mem_flatten.mp hx
  obtain ⟨r, hr1, rfl⟩ := List.mem_map.mp hl1
  unfold row1 at hx
  split at hx
  · cases hx
  · rename_i ns ms e
    rw [List.mem_singleton.mp hx]
    have := (fit_size _ _ _ _ _ e).1
    have := (h.2 r hr1).2.2
    show ns.length ≤ 100000
    omega
theorem row_snoc (L : List Nat) (dn : List Row) (nm : Str) (nds : List (Nat × Str)) (mks : List PyData) : (dn.map (renR fun i => L.idxOf i)).map Row.encR ++ [.tuple [.str nm, .tuple (nds.map fun y => encNeed (L.idxOf y.1, y.2)), .tuple mks]] = ((dn ++ [(nm, nds, mks)]).map (renR fun i => L.idxOf i)).map Row.encR := by
  rw [List.map_append, List.map_append, List.map_cons, List.map_nil, List.map_cons, List.map_nil]
  congr 2
  show _ = PyData.tuple [.str nm, .tuple ((nds.map fun y => (L.idxOf y.1, y.2)).map encNeed), .tuple mks]
  rw [List.map_map]; rfl
theorem rows_needs {w1 w2 : List Nd} {D : Nat → Prop} {f : Nat → Nat} (E : Emb w1 w2 D f) {a : Nat} (h : D a) {rs : List Rule} : ∀ x ∈ rowsL w1 a rs, ∀ y ∈ x.2.1, D y.1 := by
  intro x hx
  unfold rowsL at hx
  obtain ⟨l, hl1, hx⟩ := List.mem_flatten.mp hx
  obtain ⟨r, hr1, rfl⟩ := List.mem_map.mp hl1
  unfold row1 at hx
  split at hx
  · cases hx
  · rename_i ns ms e
    rw [List.mem_singleton.mp hx]
    exact fit_needs E r.pat a h ns ms e

inductive Rch (web : List Nd) (top : Nat) : Nat → Prop
  | top : Rch web top top
  | kid {j k : Nat} : Rch web top j → k ∈ kidsAt web j → Rch web top k
theorem rch_inv {web : List Nd} {top k : Nat} (h : Rch web top k) : k = top ∨ ∃ j, Rch web top j ∧ k ∈ kidsAt web j := by
  cases h with
  | top => exact .inl rfl
  | kid h q => exact .inr ⟨_, h, q⟩
theorem rch_le {web : List Nd} (hk : KidsLt web) {top k : Nat} (h : Rch web top k) : k ≤ top := by
  induction h with
  | top => exact Nat.le_refl _
  | kid _ q ih => have := (hk _).1 _ q; omega

def sp_taken_less : DSp := fun us M Q => ∃ a b : Int, us = [.d (.int a), .d (.int b)] ∧ M = [] ∧ Q (.d (.int (a - b))) []
def sp_together : DSp := fun us M Q => ∃ a b : Int, us = [.d (.int a), .d (.int b)] ∧ M = [] ∧ Q (.d (.int (a + b))) []
def sp_times : DSp := fun us M Q => ∃ a b : Int, us = [.d (.int a), .d (.int b)] ∧ M = [] ∧ (0 ≤ a ∧ a < 65536) ∧ Q (.d (.int (a * b))) []
def sp_bits_both : DSp := fun us M Q => ∃ a b : Int, us = [.d (.int a), .d (.int b)] ∧ M = [] ∧ Q (.d (.int (Builtin.bitAnd a b))) []
def sp_bits_any : DSp := fun us M Q => ∃ a b : Int, us = [.d (.int a), .d (.int b)] ∧ M = [] ∧ Q (.d (.int (Builtin.bitOr a b))) []
def sp_bits_unlike : DSp := fun us M Q => ∃ a b : Int, us = [.d (.int a), .d (.int b)] ∧ M = [] ∧ Q (.d (.int (Builtin.bitXor a b))) []
def sp_contrary : DSp := fun us M Q => ∃ a : Int, us = [.d (.int a)] ∧ M = [] ∧ Q (.d (.int (-a))) []
def sp_turned_bits : DSp := fun us M Q => ∃ a : Int, us = [.d (.int a)] ∧ M = [] ∧ Q (.d (.int (65535 - a))) []
abbrev stI (C : Addr) : Ob := .ins C [("cells", .p 1), ("named", .p 2)]
def intL (ws : List Int) : List PyData := ws.map .int
/-- a table of words by names -/
abbrev KV := List (Key × PyData)
def nat_ (kvs : KV) (s : Str) : Int := match valD kvs (.inr s) with
  | some (.int w) => w
  | _ => 0
def wordI (w : Int) : Prop := 0 ≤ w ∧ w < 65536
def Nums (kvs : KV) : Prop := ∀ p ∈ kvs, ∃ (s : Str) (w : Int), p = (.inr s, .int w) ∧ wordI w ∧ nameOk s
theorem valD_cons (k0 : Key) (d0 : PyData) (kvs : KV) (k : Key) : valD ((k0, d0) :: kvs) k = if k0 = k then some d0 else valD kvs k := by
  unfold valD
  rw [List.find?_cons]
  by_cases h : k0 = k
  · rw [if_pos h, decide_eq_true h]; rfl
  · rw [if_neg h, decide_eq_false h]
theorem valD_app (xs ys : KV) (k : Key) : valD (xs ++ ys) k = (valD xs k).or (valD ys k) := by
  unfold valD
  rw [List.find?_append]
  cases List.find? (fun kv : Key × PyData => decide (kv.1 = k)) xs <;> rfl
theorem nums_val {kvs : KV} (h : Nums kvs) (s : Str) : valD kvs (.inr s) = none ∨ ∃ w, valD kvs (.inr s) = some (.int w) ∧ wordI w := by
  induction kvs with
  | nil => exact .inl rfl
  | cons p ps ih =>
    obtain ⟨t, w, rfl, hw, _⟩ := h p List.mem_cons_self
    rw [valD_cons]
    by_cases e : (.inr t : Key) = .inr s
    · rw [if_pos e]; exact .inr ⟨w, rfl, hw⟩
    · rw [if_neg e]; exact ih fun q hq => h q (List.mem_cons_of_mem _ hq)
theorem nat_word {kvs : KV} (h : Nums kvs) (s : Str) : wordI (nat_ kvs s) := by
  unfold nat_
  rcases nums_val h s with e | ⟨w, e, hw⟩
  · rw [e]; exact ⟨by decide, by decide⟩
  · rw [e]; exact hw
theorem valD_map (kvs : KV) (k k' : Key) (v : PyData) : valD (kvs.map fun kv => if kv.1 = k then (kv.1, v) else kv) k' = if k = k' then (if (kvs.any fun kv => decide (kv.1 = k)) = true then some v else none) else valD kvs k' := by
  induction kvs with
  | nil => by_cases e : k = k' <;> simp [e, valD]
  | cons p ps ih =>
    obtain ⟨a, b⟩ := p
    rw [List.map_cons, List.any_cons]
    by_cases e : a = k
    · subst e
      rw [if_pos rfl, valD_cons, valD_cons, ih]
      by_cases e2 : a = k'
      · simp [e2]
      · simp [e2]
    · rw [if_neg e, valD_cons, valD_cons, ih]
      by_cases e2 : k = k'
      · subst e2
        rw [if_neg e, if_pos rfl, if_pos rfl, decide_eq_false e, Bool.false_or]
      · simp [e2]
theorem valD_none {kvs : KV} {k : Key} (h : ¬ (kvs.any fun kv => decide (kv.1 = k)) = true) : valD kvs k = none := by
  induction kvs with
  | nil => rfl
  | cons p ps ih =>
    obtain ⟨a, b⟩ := p
    rw [List.any_cons] at h
    rw [valD_cons]
    by_cases e : a = k
    · simp [e] at h
    · rw [if_neg e]; exact ih (by simpa [e] using h)
theorem valD_put (kvs : KV) (k k' : Key) (v : PyData) : valD (putD kvs k v) k' = if k = k' then some v else valD kvs k' := by
  unfold putD
  by_cases h : (kvs.any fun kv => decide (kv.1 = k)) = true
  · rw [if_pos h, valD_map, if_pos h]
  · rw [if_neg h, valD_app, valD_cons]
    by_cases e : k = k'
    · subst e
      rw [valD_none h, if_pos rfl, if_pos rfl]; rfl
    · rw [if_neg e, if_neg e]
      cases valD kvs k' <;> rfl
theorem valD_drop (kvs : KV) (k k' : Key) : valD (dropD kvs k) k' = if k = k' then none else valD kvs k' := by
  unfold dropD
  induction kvs with
  | nil => by_cases e : k = k' <;> simp [e, valD]
  | cons p ps ih =>
    obtain ⟨a, b⟩ := p
    rw [List.filter_cons]
    by_cases e : a = k
    · subst e
      rw [if_neg (by simp), ih, valD_cons]
      by_cases e2 : a = k'
      · rw [if_pos e2, if_pos e2]
      · rw [if_neg e2, if_neg e2, if_neg e2]
    · rw [if_pos (by simpa using e), valD_cons, valD_cons, ih]
      by_cases e2 : a = k'
      · subst e2
        rw [if_pos rfl, if_neg (fun q => e q.symm), if_pos rfl]
      · rw [if_neg e2, if_neg e2]
theorem nums_put {kvs : KV} (h : Nums kvs) {s : Str} {w : Int} (hw : wordI w) (hs : nameOk s) : Nums (putD kvs (.inr s) (.int w)) := by
  unfold putD
  intro p hp
  split at hp
  · obtain ⟨q, hq, e⟩ := List.mem_map.mp hp
    obtain ⟨t, v, rfl, hv, ht⟩ := h q hq
    by_cases e2 : (.inr t : Key) = .inr s
    · rw [if_pos e2] at e; exact ⟨t, w, e.symm, hw, ht⟩
    · rw [if_neg e2] at e; exact ⟨t, v, e.symm, hv, ht⟩
  · rcases List.mem_append.mp hp with hp | hp
    · exact h p hp
    · rw [List.mem_singleton.mp hp]; exact ⟨s, w, rfl, hw, hs⟩
theorem nums_drop {kvs : KV} (h : Nums kvs) (k : Key) : Nums (dropD kvs k) := fun p hp => h p (List.mem_filter.mp hp).1
theorem nat_put (kvs : KV) (s s' : Str) (w : Int) : nat_ (putD kvs (.inr s) (.int w)) s' = if s = s' then w else nat_ kvs s' := by
  unfold nat_
  rw [valD_put]
  by_cases e : s = s'
  · subst e; rw [if_pos rfl, if_pos rfl]
  · rw [if_neg (fun q => e (Sum.inr.inj q)), if_neg e]
theorem nat_drop (kvs : KV) (s s' : Str) : nat_ (dropD kvs (.inr s)) s' = if s = s' then 0 else nat_ kvs s' := by
  unfold nat_
  rw [valD_drop]
  by_cases e : s = s'
  · subst e; rw [if_pos rfl, if_pos rfl]
  · rw [if_neg (fun q => e (Sum.inr.inj q)), if_neg e]
theorem nums_flat {kvs : KV} (h : Nums kvs) : flatKv kvs = true := by
  unfold flatKv
  rw [List.all_eq_true]
  intro p hp
  obtain ⟨s, w, rfl, _⟩ := h p hp
  rfl
def giveD (kvs : KV) (s : Str) (w : Int) : KV := if w = 0 then dropD kvs (.inr s) else putD kvs (.inr s) (.int w)
theorem nat_give (kvs : KV) (s s' : Str) (w : Int) : nat_ (giveD kvs s w) s' = if s = s' then w else nat_ kvs s' := by
  unfold giveD
  by_cases h : w = 0
  · subst h; rw [if_pos rfl, nat_drop]
  · rw [if_neg h, nat_put]
theorem nums_give {kvs : KV} (h : Nums kvs) {s : Str} {w : Int} (hw : wordI w) (hs : nameOk s) : Nums (giveD kvs s w) := by
  unfold giveD
  split
  · exact nums_drop h _
  · exact nums_put h hw hs
theorem drop_len (kvs : KV) (k : Key) : (dropD kvs k).length ≤ kvs.length := List.length_filter_le _ _
theorem give_len (kvs : KV) (s : Str) (w : Int) : (giveD kvs s w).length ≤ kvs.length + 1 := by
  unfold giveD
  split
  · have := drop_len kvs (.inr s); omega
  · exact putD_len _ _ _
theorem drop_out {kvs : KV} {k : Key} (h : valD kvs k = none) : dropD kvs k = kvs := by
  unfold dropD
  induction kvs with
  | nil => rfl
  | cons p ps ih =>
    obtain ⟨a, b⟩ := p
    rw [valD_cons] at h
    by_cases e : a = k
    · rw [if_pos e] at h; cases h
    · rw [if_neg e] at h
      rw [List.filter_cons, if_pos (by simpa using e), ih h]
def Tab (kvs : KV) : Prop := Nums kvs ∧ (kvs.map (·.1)).Nodup
theorem any_key (kvs : KV) (k : Key) : (kvs.any fun kv => decide (kv.1 = k)) = true ↔ k ∈ kvs.map (·.1) := by
  rw [List.any_eq_true, List.mem_map]
  exact ⟨fun ⟨x, h, e⟩ => ⟨x, h, of_decide_eq_true e⟩, fun ⟨x, h, e⟩ => ⟨x, h, decide_eq_true e⟩⟩
theorem nodup_put {kvs : KV} (h : (kvs.map (·.1)).Nodup) (k : Key) (v : PyData) : ((putD kvs k v).map (·.1)).Nodup := by
  unfold putD
  split
  · rw [List.map_map, List.map_congr_left (g := fun kv => kv.1) (fun x _ => by show (if x.1 = k then (x.1, v) else x).1 = x.1; split <;> rfl)]
    exact h
  · rename_i hn
    rw [any_key] at hn
    rw [List.map_append]
    refine List.nodup_append.mpr ⟨h, by simp, fun a ha b hb => ?_⟩
    have e : b = k := by simpa using hb
    subst e
    rintro rfl
    exact hn ha
theorem tab_put {kvs : KV} (h : Tab kvs) {s : Str} {w : Int} (hw : wordI w) (hs : nameOk s) : Tab (putD kvs (.inr s) (.int w)) := ⟨nums_put h.1 hw hs, nodup_put h.2 _ _⟩
theorem tab_drop {kvs : KV} (h : Tab kvs) (k : Key) : Tab (dropD kvs k) := ⟨nums_drop h.1 k, List.Nodup.sublist (List.filter_sublist.map _) h.2⟩
theorem tab_give {kvs : KV} (h : Tab kvs) {s : Str} {w : Int} (hw : wordI w) (hs : nameOk s) : Tab (giveD kvs s w) := by
  unfold giveD
  split
  · exact tab_drop h _
  · exact tab_put h hw hs
theorem merge_nodup : ∀ (more acc : KV), (((acc ++ more).map (·.1)).Nodup) → mergeD acc more = acc ++ more
  | [], acc, _ => by rw [List.append_nil]; rfl
  | p :: ps, acc, h => by
    have hk : ¬ (acc.any fun kv => decide (kv.1 = p.1)) = true := by
      rw [any_key]
      intro hm
      rw [List.map_append] at h
      exact (List.nodup_append.mp h).2.2 _ hm p.1 (by simp) rfl
    show mergeD (putD acc p.1 p.2) ps = _
    have e : putD acc p.1 p.2 = acc ++ [p] := by unfold putD; rw [if_neg hk]
    rw [e, merge_nodup ps _ (by simpa using h)]
    simp
theorem merge_self {kvs : KV} (h : (kvs.map (·.1)).Nodup) : mergeD [] kvs = kvs := merge_nodup kvs [] h
theorem tab_nil : Tab [] := ⟨(fun p hp => nomatch hp), List.nodup_nil⟩
theorem cells_at {ws : List Int} {i : Int} (h0 : 0 ≤ i) (h1 : i < ws.length) : atI (intL ws) i = some (.int (ws.getD i.toNat 0)) := by
  have hj : i.toNat < ws.length := by omega
  unfold atI ixN intL
  rw [if_pos h0, if_pos (by rw [List.length_map]; exact h1)]
  show (ws.map PyData.int)[i.toNat]? = _
  rw [List.getElem?_map, List.getElem?_eq_getElem hj, List.getD_eq_getElem?_getD, List.getElem?_eq_getElem hj]; rfl
theorem set_intL (ws : List Int) (j : Nat) (w : Int) : (intL ws).set j (.int w) = intL (ws.set j w) := by
  unfold intL; rw [List.map_set]
theorem ix_at {n : Nat} {i : Int} (h0 : 0 ≤ i) (h1 : i < n) : ixN n i = some i.toNat := by
  unfold ixN; rw [if_pos h0, if_pos h1]
theorem okS {C : Addr} {ds : List PyData} {kvs : KV} {m : Nat} (hm : 3 ≤ m) : ∀ o ∈ [stI C, .lst ds, .dic kvs], okOb m o := by
  intro o ho
  simp only [List.mem_cons, List.not_mem_nil, or_false] at ho
  rcases ho with rfl | rfl | rfl
  · intro p hp
    simp only [List.mem_cons, List.not_mem_nil, or_false] at hp
    rcases hp with rfl | rfl
    · exact (by omega : 1 < m)
    · exact (by omega : 2 < m)
  · exact trivial
  · exact trivial
theorem fin_S {C : Addr} {ds ds' : List PyData} {kvs kvs' : KV} {Qu : U → List Ob → Prop} {z : PyData} (q : Qu (.d z) [stI C, .lst ds', .dic kvs']) : Fin' [stI C, .lst ds, .dic kvs] Qu (.d z) [stI C, .lst ds', .dic kvs'] := .inl ⟨3, Nat.le_refl _, Nat.le_refl _, trivial, okS (Nat.le_refl _), q⟩
def sp_State___init__ (C : Addr) : DSp := fun us M Q => us = [.p 0] ∧ M = [.ins C []] ∧ Q (.d .none) [stI C, .lst (intL (List.replicate 64 0)), .dic []]
def sp_State_cell (C : Addr) : DSp := fun us M Q => ∃ (ws : List Int) (kvs : KV) (i : Int), us = [.p 0, .d (.int i)] ∧ M = [stI C, .lst (intL ws), .dic kvs] ∧ 0 ≤ i ∧ i < ws.length ∧ Q (.d (.int (ws.getD i.toNat 0))) M
def sp_State_put (C : Addr) : DSp := fun us M Q => ∃ (ws : List Int) (kvs : KV) (i w : Int), us = [.p 0, .d (.int i), .d (.int w)] ∧ M = [stI C, .lst (intL ws), .dic kvs] ∧ 0 ≤ i ∧ i < ws.length ∧ Q (.d .none) [stI C, .lst (intL (ws.set i.toNat w)), .dic kvs]
def sp_State_word (C : Addr) : DSp := fun us M Q => ∃ (ws : List Int) (kvs : KV) (s : Str), us = [.p 0, .d (.str s)] ∧ M = [stI C, .lst (intL ws), .dic kvs] ∧ Nums kvs ∧ Q (.d (.int (nat_ kvs s))) M
def sp_State_give (C : Addr) : DSp := fun us M Q => ∃ (ws : List Int) (kvs : KV) (s : Str) (w : Int), us = [.p 0, .d (.str s), .d (.int w)] ∧ M = [stI C, .lst (intL ws), .dic kvs] ∧ kvs.length ≤ 1000 ∧ Q (.d .none) [stI C, .lst (intL ws), .dic (giveD kvs s w)]
def sp_State_copied (C : Addr) : DSp := fun us M Q => ∃ (ws : List Int) (kvs : KV), us = [.p 0] ∧ M = [stI C, .lst (intL ws), .dic kvs] ∧ ws.length ≤ 1000 ∧ kvs.length ≤ 1000 ∧ Tab kvs ∧ Q (.p 3) [stI C, .lst (intL ws), .dic kvs, .ins C [("cells", .p 4), ("named", .p 5)], .lst (intL ws), .dic kvs]
theorem eqvL_intL : ∀ (a b : List Int), PyData.eqv (.list (intL a)) (.list (intL b)) = decide (a = b)
  | [], [] => rfl
  | [], b :: bs => rfl
  | a :: as, [] => rfl
  | a :: as, b :: bs => by
    have ih := eqvL_intL as bs
    have e : PyData.eqv (.list (intL (a :: as))) (.list (intL (b :: bs))) = (PyData.eqv (.int a) (.int b) && PyData.eqv (.list (intL as)) (.list (intL bs))) := by
      simp [intL, PyData.eqv, PyData.eqvAll]
    rw [e, ih, eqv_i]
    by_cases h1 : a = b <;> by_cases h2 : as = bs <;> simp [h1, h2]
theorem shaped_intL (ws : List Int) : SeqAt.shaped (.list (intL ws)) = true := by
  have h1 : PyData.canLayAll0 (intL ws) = true := by
    induction ws with
    | nil => rfl
    | cons a as ih => unfold intL at *; simp [PyData.canLayAll0, PyData.canLay0, ih]
  have h2 : PyData.depthAll (intL ws) ≤ 1 := by
    induction ws with
    | nil => simp [intL, PyData.depthAll]
    | cons a as ih => unfold intL at *; simp [PyData.depthAll, PyData.depth]; have := ih (by simpa [PyData.canLayAll0, PyData.canLay0] using h1); omega
  simp [SeqAt.shaped, PyData.canLay0, PyData.depth, h1]
  omega
theorem okE6 {C : Addr} {ds ds' : List PyData} {kvs kvs' : KV} : ∀ o ∈ [stI C, .lst ds, .dic kvs, .ins C [("cells", .p 4), ("named", .p 5)], .lst ds', .dic kvs'], okOb 6 o := by
  intro o ho
  simp only [List.mem_cons, List.not_mem_nil, or_false] at ho
  rcases ho with rfl | rfl | rfl | rfl | rfl | rfl
  · intro p hp
    simp only [List.mem_cons, List.not_mem_nil, or_false] at hp
    rcases hp with rfl | rfl
    · exact (by decide : 1 < 6)
    · exact (by decide : 2 < 6)
  · exact trivial
  · exact trivial
  · intro p hp
    simp only [List.mem_cons, List.not_mem_nil, or_false] at hp
    rcases hp with rfl | rfl
    · exact (by decide : 4 < 6)
    · exact (by decide : 5 < 6)
  · exact trivial
  · exact trivial
def SameT (kvs kvs2 : KV) : Prop := kvs.length = kvs2.length ∧ ∀ p ∈ kvs, valD kvs2 p.1 = some p.2
def sp_State___eq__ (C : Addr) : DSp := fun us M Q => ∃ (cs cs2 : List Int) (kvs kvs2 : KV), us = [.p 0, .p 3] ∧ M = [stI C, .lst (intL cs), .dic kvs, .ins C [("cells", .p 4), ("named", .p 5)], .lst (intL cs2), .dic kvs2] ∧ cs.length ≤ 1000 ∧ cs2.length ≤ 1000 ∧ Nums kvs ∧
  ((cs ≠ cs2 ∧ Q (.d (.bool false)) M) ∨ (cs = cs2 ∧ SameT kvs kvs2 ∧ Q (.d (.bool true)) M))
theorem lookA_at {tbl : List (Addr × DSp)} {f : Addr} {d : DSp} (h : (tbl.map (·.1)).Nodup) (i : Nat) (e : tbl[i]? = some (f, d)) : lookA tbl f = some d := by
  unfold lookA
  induction tbl generalizing i with
  | nil => simp at e
  | cons p ps ih =>
    rw [List.map_cons, List.nodup_cons] at h
    rw [List.find?_cons]
    cases i with
    | zero =>
      have e2 : p = (f, d) := by simpa using e
      subst e2
      simp
    | succ i =>
      have e2 : ps[i]? = some (f, d) := by simpa using e
      have hm : f ∈ ps.map (·.1) := List.mem_map.mpr ⟨_, List.mem_of_getElem? e2, rfl⟩
      have hne : ¬ p.1 = f := fun q => h.1 (by rw [q]; exact hm)
      rw [decide_eq_false hne]
      exact ih h.2 i e2
def reck (op : Str) (a b : Int) : Int :=
  if op = "neg" then -a else if op = "not" then 65535 - a else if op = "add" then a + b else if op = "sub" then a - b else if op = "mul" then a * b
  else if op = "and" then Builtin.bitAnd a b else if op = "or" then Builtin.bitOr a b else Builtin.bitXor a b
def markV : PyData → Int
  | .int m => m
  | _ => 0
def markS : PyData → Str
  | .str s => s
  | _ => ""
def partW (cells : List Int) (nm : Str → Int) (op : Str) (mark : PyData) (ws : List Int) : Int :=
  if op = "num" then markV mark else if op = "var" then nm (markS mark) else if op = "load" then cells.getD (ws.getD 0 0 % 64).toNat 0
  else reck op (ws.getD 0 0) (ws.getD 1 0) % 65536
def okPart (op : Str) (mark : PyData) (n : Nat) : Prop := (op = "num" ∧ ∃ m, mark = .int m ∧ wordI m) ∨ (op = "var" ∧ ∃ s, mark = .str s) ∨
  (op ∈ (["load", "neg", "not"] : List Str) ∧ 1 ≤ n) ∨ (op ∈ (["add", "sub", "mul", "and", "or", "xor"] : List Str) ∧ 2 ≤ n)
theorem part_word {cells : List Int} {nm : Str → Int} {op : Str} {mark : PyData} {ws : List Int} (hc : ∀ w ∈ cells, wordI w) (hn : ∀ s, wordI (nm s)) (ho : okPart op mark ws.length) : wordI (partW cells nm op mark ws) := by
  unfold partW
  split
  · rename_i h
    rcases ho with ⟨_, m, rfl, hm⟩ | ⟨rfl, _⟩ | ⟨h2, _⟩ | ⟨h2, _⟩
    · exact hm
    · exact absurd h (by decide +kernel)
    · subst h; exact absurd h2 (by decide +kernel)
    · subst h; exact absurd h2 (by decide +kernel)
  · split
    · exact hn _
    · split
      · rw [List.getD_eq_getElem?_getD]
        cases e : cells[(ws.getD 0 0 % 64).toNat]? with
        | none => exact ⟨by decide, by decide⟩
        | some w => exact hc w (List.mem_of_getElem? e)
      · exact ⟨Int.emod_nonneg _ (by decide), Int.emod_lt_of_pos _ (by decide)⟩
def sp_part_word (C : Addr) : DSp := fun us M Q => ∃ (op : Str) (mark : PyData) (ws cells : List Int) (kvs : KV), us = [.d (.str op), .d mark, .d (.list (intL ws)), .p 0] ∧ M = [stI C, .lst (intL cells), .dic kvs] ∧ Nums kvs ∧ cells.length = 64 ∧ (∀ w ∈ ws, wordI w) ∧ okPart op mark ws.length ∧
  Q (.d (.int (partW cells (nat_ kvs) op mark ws))) M
def deedC (op : Str) (ws cells : List Int) : List Int := if op = "put" then cells.set (ws.getD 0 0 % 64).toNat (ws.getD 1 0) else cells
def deedK (op : Str) (mark : PyData) (ws : List Int) (kvs : KV) : KV := if op = "put" then kvs else giveD kvs (markS mark) (ws.getD 0 0)
def okDeed (op : Str) (mark : PyData) (n : Nat) : Prop := (op = "put" ∧ 2 ≤ n) ∨ (op = "set" ∧ 1 ≤ n ∧ ∃ s, mark = .str s ∧ nameOk s)
def sp_deed_done (C : Addr) : DSp := fun us M Q => ∃ (op : Str) (mark : PyData) (ws cells : List Int) (kvs : KV), us = [.d (.str op), .d mark, .d (.list (intL ws)), .p 0] ∧ M = [stI C, .lst (intL cells), .dic kvs] ∧ cells.length = 64 ∧ kvs.length ≤ 1000 ∧ okDeed op mark ws.length ∧
  Q (.d .none) [stI C, .lst (intL (deedC op ws cells)), .dic (deedK op mark ws kvs)]
/-- a node: op, mark, kids -/
abbrev NdT := Str × PyData × List Nat
def natL (ks : List Nat) : List PyData := ks.map fun (k : Nat) => PyData.int (k : Int)
def encNd (n : NdT) : PyData := .tuple [.str n.1, n.2.1, .tuple (natL n.2.2)]
def someW (ws : List Int) (ks : List Nat) : List Int := ks.map fun k => ws.getD k 0
def runW (cells : List Int) (nm : Str → Int) : List NdT → List Int → List Int
  | [], ws => ws
  | n :: ns, ws => runW cells nm ns (ws ++ [partW cells nm n.1 n.2.1 (someW ws n.2.2)])
def okRun : List NdT → Nat → Prop
  | [], _ => True
  | n :: ns, k => okPart n.1 n.2.1 n.2.2.length ∧ (n.2.2.length ≤ 100 ∧ ∀ i ∈ n.2.2, i < k) ∧ okRun ns (k + 1)
structure StOk (cells : List Int) (kvs : KV) : Prop where
  len : cells.length = 64
  words : ∀ w ∈ cells, wordI w
  tab : Tab kvs
  size : kvs.length ≤ 900
structure WebS (nds : List NdT) (dd : NdT) : Prop where
  run : okRun nds 0
  deed : okDeed dd.1 dd.2.1 dd.2.2.length
  kids : dd.2.2.length ≤ 100 ∧ ∀ i ∈ dd.2.2, i < nds.length
  len : nds.length ≤ 900
def wordsOf (cells : List Int) (kvs : KV) (nds : List NdT) (dd : NdT) : List Int := someW (runW cells (nat_ kvs) nds []) dd.2.2
theorem okS6 {C : Addr} {ds ds' : List PyData} {kvs kvs' : KV} : ∀ o ∈ [stI C, .lst ds, .dic kvs, .ins C [("cells", .p 4), ("named", .p 5)], .lst ds', .dic kvs'], okOb 6 o := by
  intro o ho
  simp only [List.mem_cons, List.not_mem_nil, or_false] at ho
  rcases ho with rfl | rfl | rfl | rfl | rfl | rfl
  · intro p hp
    simp only [List.mem_cons, List.not_mem_nil, or_false] at hp
    rcases hp with rfl | rfl
    · exact (by decide : 1 < 6)
    · exact (by decide : 2 < 6)
  · exact trivial
  · exact trivial
  · intro p hp
    simp only [List.mem_cons, List.not_mem_nil, or_false] at hp
    rcases hp with rfl | rfl
    · exact (by decide : 4 < 6)
    · exact (by decide : 5 < 6)
  · exact trivial
  · exact trivial
theorem okS7 {C : Addr} {ds ds' ds7 : List PyData} {kvs kvs' : KV} : ∀ o ∈ [stI C, .lst ds, .dic kvs, .ins C [("cells", .p 4), ("named", .p 5)], .lst ds', .dic kvs', .lst ds7], okOb 7 o := by
  intro o ho
  simp only [List.mem_cons, List.not_mem_nil, or_false] at ho
  rcases ho with rfl | rfl | rfl | rfl | rfl | rfl | rfl
  · intro p hp
    simp only [List.mem_cons, List.not_mem_nil, or_false] at hp
    rcases hp with rfl | rfl
    · exact (by decide : 1 < 7)
    · exact (by decide : 2 < 7)
  · exact trivial
  · exact trivial
  · intro p hp
    simp only [List.mem_cons, List.not_mem_nil, or_false] at hp
    rcases hp with rfl | rfl
    · exact (by decide : 4 < 7)
    · exact (by decide : 5 < 7)
  · exact trivial
  · exact trivial
  · exact trivial
theorem map_go {α : Type} {G : List Ob → Prop} {M0 : List Ob} (hG : G M0) (ks : List α) (enc f : α → PyData) {ρ : Rho} {wg : WG} {k : WK} {Q : List U → List Ob → Prop}
    (h1 : ∀ (x : α) (acc : List PyData) (R : List U → List Ob → Prop), x ∈ ks → acc.length < ks.length → R ((acc ++ [f x]).map U.d) M0 → wg (.d (enc x)) ρ M0 fun ρ1 M1 => k ρ1 M1 (acc.map U.d) R)
    (h0 : Q ((ks.map f).map U.d) M0) : wLcGo G wg k ρ ((ks.map enc).map U.d) [] M0 Q := by
  refine wLcGo_rec (fun us acc M => ∃ pre suf : List α, acc = (pre.map f).map U.d ∧ us = (suf.map enc).map U.d ∧ M = M0 ∧ ks = pre ++ suf) ?_ ?_ _ _ _ ⟨[], ks, rfl, rfl, rfl, rfl⟩
  · rintro acc M ⟨pre, suf, rfl, h2, rfl, h3⟩
    cases suf with
    | cons c cs => cases h2
    | nil => rw [List.append_nil] at h3; subst h3; exact ⟨hG, h0⟩
  · rintro u us ih acc M ⟨pre, suf, rfl, h2, rfl, h3⟩
    cases suf with
    | nil => cases h2
    | cons c cs =>
      rw [List.map_cons, List.map_cons] at h2
      injection h2 with e1 e2
      subst e1; subst e2
      refine ⟨hG, h1 c (pre.map f) _ (by rw [h3]; simp) (by rw [h3]; simp) (ih _ _ ⟨pre ++ [c], cs, by simp, rfl, rfl, by rw [h3]; simp⟩)⟩
theorem nat_at {ws : List Int} {i : Nat} (h : i < ws.length) : atI (intL ws) (i : Int) = some (.int (ws.getD i 0)) := by
  have := cells_at (ws := ws) (i := (i : Int)) (by omega) (by omega)
  rw [this]; rfl
theorem snoc_intL (ws : List Int) (x : Int) : intL ws ++ [.int x] = intL (ws ++ [x]) := by unfold intL; rw [List.map_append]; rfl
theorem some_nat (ws : List Int) (ks : List Nat) : (ks.map fun k => PyData.int (ws.getD k 0)) = intL (someW ws ks) := by
  unfold intL someW; rw [List.map_map]; rfl
theorem some_word {ws : List Int} (h : ∀ w ∈ ws, wordI w) (ks : List Nat) : ∀ w ∈ someW ws ks, wordI w := by
  intro w hw
  obtain ⟨k, _, rfl⟩ := List.mem_map.mp hw
  rw [List.getD_eq_getElem?_getD]
  cases e : ws[k]? with
  | none => exact ⟨by decide, by decide⟩
  | some v => exact h v (List.mem_of_getElem? e)
theorem part_deed {op : Str} {mark : PyData} {n : Nat} (h : okPart op mark n) : ¬ op ∈ (["put", "set"] : List Str) := by
  rcases h with ⟨rfl, _⟩ | ⟨rfl, _⟩ | ⟨h, _⟩ | ⟨h, _⟩
  · decide +kernel
  · decide +kernel
  · simp only [List.mem_cons, List.not_mem_nil, or_false] at h
    rcases h with rfl | rfl | rfl <;> decide +kernel
  · simp only [List.mem_cons, List.not_mem_nil, or_false] at h
    rcases h with rfl | rfl | rfl | rfl | rfl | rfl <;> decide +kernel
theorem deed_in {op : Str} {mark : PyData} {n : Nat} (h : okDeed op mark n) : op ∈ (["put", "set"] : List Str) := by
  rcases h with ⟨rfl, _⟩ | ⟨rfl, _⟩ <;> decide +kernel
theorem some_len (ws : List Int) (ks : List Nat) : (someW ws ks).length = ks.length := List.length_map _
def sp_do (C : Addr) : DSp := fun us M Q => ∃ (nds : List NdT) (dd : NdT) (cells : List Int) (kvs : KV), us = [.d (.list ((nds ++ [dd]).map encNd)), .p 0] ∧ M = [stI C, .lst (intL cells), .dic kvs] ∧ StOk cells kvs ∧ WebS nds dd ∧
  Q (.p 3) [stI C, .lst (intL cells), .dic kvs, .ins C [("cells", .p 4), ("named", .p 5)], .lst (intL (deedC dd.1 (wordsOf cells kvs nds dd) cells)), .dic (deedK dd.1 dd.2.1 (wordsOf cells kvs nds dd) kvs)]
def bitsTo (f : Nat → Nat → Nat) (a b : Nat) : Nat → Nat
  | 0 => 0
  | k + 1 => bitsTo f a b k + f (a / 2 ^ k % 2) (b / 2 ^ k % 2) * 2 ^ k
theorem mod_two_succ (x k : Nat) : x % 2 ^ (k + 1) = x % 2 ^ k + x / 2 ^ k % 2 * 2 ^ k := by
  rw [Nat.pow_succ, Nat.mod_mul, Nat.mul_comm (2 ^ k)]
theorem bit_and (a b k : Nat) : (a &&& b) / 2 ^ k % 2 = (a / 2 ^ k % 2) * (b / 2 ^ k % 2) := by
  rw [← Nat.toNat_testBit, ← Nat.toNat_testBit, ← Nat.toNat_testBit, Nat.testBit_and]
  cases a.testBit k <;> cases b.testBit k <;> rfl
theorem bit_or (a b k : Nat) : (a ||| b) / 2 ^ k % 2 = max (a / 2 ^ k % 2) (b / 2 ^ k % 2) := by
  rw [← Nat.toNat_testBit, ← Nat.toNat_testBit, ← Nat.toNat_testBit, Nat.testBit_or]
  cases a.testBit k <;> cases b.testBit k <;> rfl
theorem bits_and (a b : Nat) : ∀ k, bitsTo (fun p q => p * q) a b k = (a &&& b) % 2 ^ k
  | 0 => by rw [Nat.pow_zero, Nat.mod_one]; rfl
  | k + 1 => by rw [mod_two_succ, bit_and]; show bitsTo _ a b k + _ = _; rw [bits_and a b k]
theorem bits_or (a b : Nat) : ∀ k, bitsTo (fun p q => max p q) a b k = (a ||| b) % 2 ^ k
  | 0 => by rw [Nat.pow_zero, Nat.mod_one]; rfl
  | k + 1 => by rw [mod_two_succ, bit_or]; show bitsTo _ a b k + _ = _; rw [bits_or a b k]
theorem bits_xor (a b : Nat) : ∀ k, bitsTo (fun p q => (p + q) % 2) a b k + bitsTo (fun p q => p * q) a b k = bitsTo (fun p q => max p q) a b k
  | 0 => rfl
  | k + 1 => by
    have ih := bits_xor a b k
    show (bitsTo _ a b k + (a / 2 ^ k % 2 + b / 2 ^ k % 2) % 2 * 2 ^ k) + (bitsTo _ a b k + (a / 2 ^ k % 2) * (b / 2 ^ k % 2) * 2 ^ k) = bitsTo _ a b k + max (a / 2 ^ k % 2) (b / 2 ^ k % 2) * 2 ^ k
    rw [← ih]
    rcases Nat.mod_two_eq_zero_or_one (a / 2 ^ k) with e1 | e1 <;> rcases Nat.mod_two_eq_zero_or_one (b / 2 ^ k) with e2 | e2 <;> rw [e1, e2] <;> simp <;> omega
def opBit (op : Str) (p q : Nat) : Nat := if op = "and" then p * q else if op = "or" then max p q else (p + q) % 2
theorem bitAnd_nat (m n : Nat) : Builtin.bitAnd (m : Int) (n : Int) = ((m &&& n : Nat) : Int) := by
  unfold Builtin.bitAnd
  rw [decide_eq_true (Int.natCast_nonneg m), decide_eq_true (Int.natCast_nonneg n)]
  rfl
theorem bitOr_nat (m n : Nat) : Builtin.bitOr (m : Int) (n : Int) = ((m ||| n : Nat) : Int) := by
  unfold Builtin.bitOr Builtin.bitAnd Builtin.bitNot
  rw [decide_eq_false (by omega : ¬ 0 ≤ -(m : Int) - 1), decide_eq_false (by omega : ¬ 0 ≤ -(n : Int) - 1)]
  show -(-(((-(-(m : Int) - 1) - 1).toNat ||| (-(-(n : Int) - 1) - 1).toNat : Nat) : Int) - 1) - 1 = _
  rw [show (-(-(m : Int) - 1) - 1).toNat = m by omega, show (-(-(n : Int) - 1) - 1).toNat = n by omega]
  omega
theorem op_bits {op : Str} {m n : Nat} (ho : op ∈ (["and", "or", "xor"] : List Str)) (hm : m < 65536) (hn : n < 65536) : ((bitsTo (opBit op) m n 16 : Nat) : Int) = reck op (m : Int) (n : Int) := by
  have ea : bitsTo (fun p q => p * q) m n 16 = m &&& n := by
    rw [bits_and, Nat.mod_eq_of_lt]; exact Nat.and_lt_two_pow m hn
  have eo : bitsTo (fun p q => max p q) m n 16 = m ||| n := by
    rw [bits_or, Nat.mod_eq_of_lt]; exact Nat.or_lt_two_pow hm hn
  simp only [List.mem_cons, List.not_mem_nil, or_false] at ho
  rcases ho with rfl | rfl | rfl
  · have e1 : opBit "and" = fun p q => p * q := by funext p q; rfl
    have e2 : reck "and" (m : Int) (n : Int) = Builtin.bitAnd (m : Int) (n : Int) := rfl
    rw [e1, e2, bitAnd_nat, ea]
  · have e1 : opBit "or" = fun p q => max p q := by funext p q; rfl
    have e2 : reck "or" (m : Int) (n : Int) = Builtin.bitOr (m : Int) (n : Int) := rfl
    rw [e1, e2, bitOr_nat, eo]
  · have e1 : opBit "xor" = fun p q => (p + q) % 2 := by funext p q; rfl
    have e2 : reck "xor" (m : Int) (n : Int) = Builtin.bitOr (m : Int) (n : Int) - Builtin.bitAnd (m : Int) (n : Int) := rfl
    have := bits_xor m n 16
    rw [e1, e2, bitOr_nat, bitAnd_nat]
    rw [ea, eo] at this
    omega
def sp_reckoned : DSp := fun us M Q => ∃ (op : Str) (a b : Int), us = [.d (.str op), .d (.int a), .d (.int b)] ∧ M = [] ∧ wordI a ∧ wordI b ∧ op ∈ (["neg", "not", "add", "sub", "mul", "and", "or", "xor"] : List Str) ∧ ∀ r : Int, r % 65536 = reck op a b % 65536 → Q (.d (.int r)) []
/-- no nought is kept -/
def NZ (kvs : KV) : Prop := ∀ p ∈ kvs, p.2 ≠ .int 0
theorem nz_nil : NZ [] := fun p hp => nomatch hp
theorem nz_give {kvs : KV} (h : NZ kvs) (s : Str) (w : Int) : NZ (giveD kvs s w) := by
  unfold giveD
  split
  · exact fun p hp => h p (List.mem_filter.mp hp).1
  · rename_i hw
    unfold putD
    intro p hp
    split at hp
    · obtain ⟨q, hq, e⟩ := List.mem_map.mp hp
      split at e
      · subst e; exact fun z => hw (PyData.int.inj z)
      · subst e; exact h q hq
    · rcases List.mem_append.mp hp with hp | hp
      · exact h p hp
      · rw [List.mem_singleton.mp hp]; exact fun z => hw (PyData.int.inj z)
abbrev stJ (C : Addr) (i : Nat) : Ob := .ins C [("cells", .p (i + 1)), ("named", .p (i + 2))]
structure TwinN (n : Nat) (cs : List Int) (kvs nk : KV) : Prop where
  a : StOk cs kvs
  b : StOk cs nk
  same : ∀ s, nat_ kvs s = nat_ nk s
  small : kvs.length ≤ n ∧ nk.length ≤ n
  nz : NZ kvs
abbrev Twin := TwinN 20
def sp_state (C : Addr) : DSp := fun us M Q => ∃ g h : Int, us = [.p 0] ∧ M = [bagO g h] ∧ bagOk g h ∧ ∀ cs kvs nk g' h', Twin cs kvs nk → bagOk g' h' →
  Q (.p 6) [bagO g' h', stJ C 1, .lst (intL cs), .dic kvs, .lst (intL cs), .dic nk, .tpp [.p 1, .p 4, .p 5]]
theorem okJ7 {C : Addr} {g h : Int} {ds ds' : List PyData} {kvs nk : KV} : ∀ o ∈ [bagO g h, stJ C 1, .lst ds, .dic kvs, .lst ds', .dic nk, .tpp [.p 1, .p 4, .p 5]], okOb 7 o := by
  intro o ho
  simp only [List.mem_cons, List.not_mem_nil, or_false] at ho
  rcases ho with rfl | rfl | rfl | rfl | rfl | rfl | rfl
  · exact trivial
  · intro p hp
    simp only [List.mem_cons, List.not_mem_nil, or_false] at hp
    rcases hp with rfl | rfl
    · exact (by decide : 2 < 7)
    · exact (by decide : 3 < 7)
  · exact trivial
  · exact trivial
  · exact trivial
  · exact trivial
  · intro p hp
    simp only [List.mem_cons, List.not_mem_nil, or_false] at hp
    rcases hp with rfl | rfl | rfl
    · exact (by decide : 1 < 7)
    · exact (by decide : 4 < 7)
    · exact (by decide : 5 < 7)
theorem count_at (l : List Int) (i : Int) (h0 : 0 ≤ i) (h1 : i < l.length) : ∃ n, atI (l.map PyData.int) i = some (.int n) ∧ n ∈ l := by
  refine ⟨l.getD i.toNat 0, cells_at (ws := l) h0 h1, ?_⟩
  rw [List.getD_eq_getElem?_getD, List.getElem?_eq_getElem (by omega : i.toNat < l.length)]
  exact List.getElem_mem _
theorem words_set {cs : List Int} (h : ∀ w ∈ cs, wordI w) {w : Int} (hw : wordI w) (j : Nat) : ∀ x ∈ cs.set j w, wordI x := by
  intro x hx
  rcases List.mem_or_eq_of_mem_set hx with hx | rfl
  · exact h x hx
  · exact hw
theorem getD_word {ws : List Int} (h : ∀ w ∈ ws, wordI w) (i : Nat) : wordI (ws.getD i 0) := by
  rw [List.getD_eq_getElem?_getD]
  cases e : ws[i]? with
  | none => exact ⟨by decide, by decide⟩
  | some v => exact h v (List.mem_of_getElem? e)
theorem val_mem {kvs : KV} (h : (kvs.map (·.1)).Nodup) {p : Key × PyData} (hp : p ∈ kvs) : valD kvs p.1 = some p.2 := by
  induction kvs with
  | nil => cases hp
  | cons q qs ih =>
    obtain ⟨a, b⟩ := q
    rw [List.map_cons, List.nodup_cons] at h
    rw [valD_cons]
    rcases List.mem_cons.mp hp with rfl | hp
    · rw [if_pos rfl]
    · rw [if_neg (fun e => h.1 (List.mem_map.mpr ⟨p, hp, e.symm⟩))]
      exact ih h.2 hp
theorem nat_val {kvs : KV} (h : Nums kvs) {s : Str} {d : PyData} (e : valD kvs (.inr s) = some d) : d = .int (nat_ kvs s) := by
  rcases nums_val h s with e2 | ⟨w, e2, _⟩
  · rw [e2] at e; cases e
  · rw [e2] at e; cases e
    unfold nat_; rw [e2]
theorem nat_none {kvs : KV} {s : Str} (e : valD kvs (.inr s) = none) : nat_ kvs s = 0 := by unfold nat_; rw [e]

theorem pad0 (so : List Int) : atI (intL so ++ [PyData.int 0, PyData.int 0]) 0 = some (.int (so.getD 0 0)) := by
  cases so with
  | nil => rfl
  | cons a so => exact at0
theorem pad1 (so : List Int) : atI (intL so ++ [PyData.int 0, PyData.int 0]) 1 = some (.int (so.getD 1 0)) := by
  cases so with
  | nil => rfl
  | cons a so => cases so with
    | nil => rfl
    | cons b so => exact at1
def sp_worths : DSp := fun us M Q => ∃ (nds : List NdT) (dd : NdT) (cells : List Int) (kvs : KV), us = [.d (.list ((nds ++ [dd]).map encNd)), .p 0, .p 1] ∧ M = [.lst (intL cells), .dic kvs] ∧ StOk cells kvs ∧ WebS nds dd ∧
  Q (.p 2) [.lst (intL cells), .dic kvs, .lst (intL (runW cells (nat_ kvs) nds []))]
theorem cut_last {α : Type} (xs : List α) (x : α) : cutD (xs ++ [x]) none (some (-1)) = xs := by
  unfold cutD
  have e : HT.sIx (xs ++ [x]).length (xs ++ [x]).length (some (-1)) = xs.length := by
    show (if (-1 : Int) < 0 then ((-1 : Int) + ((xs ++ [x]).length : Int)).toNat else min (-1 : Int).toNat (xs ++ [x]).length) = _
    rw [if_pos (by decide)]; simp; omega
  rw [HT.sIx_none, e]
  simp
theorem at_last {α : Type} (xs : List α) (x : α) : atI (xs ++ [x]) (-1) = some x := by
  unfold atI ixN
  rw [if_neg (by decide)]
  simp
  rw [if_pos (by omega), show (-1 + ((xs.length : Int) + 1)).toNat = xs.length by omega]
  simp
def sp_behind : DSp := fun us M Q => ∃ (nds : List NdT) (dd : NdT) (cells : List Int) (kvs : KV), us = [.d (.list ((nds ++ [dd]).map encNd)), .p 0, .p 1] ∧ M = [.lst (intL cells), .dic kvs] ∧ StOk cells kvs ∧ WebS nds dd ∧
  Q (.p 4) [.lst (intL cells), .dic kvs, .lst (intL (deedC dd.1 (wordsOf cells kvs nds dd) cells)), .dic (if dd.1 = "put" then kvs else putD kvs (.inr (markS dd.2.1)) (.int ((wordsOf cells kvs nds dd).getD 0 0))), .tpp [.p 2, .p 3]]
theorem runW_len (cells : List Int) (nm : Str → Int) : ∀ (ns : List NdT) (ws : List Int), (runW cells nm ns ws).length = ws.length + ns.length
  | [], ws => rfl
  | n :: ns, ws => by
    show (runW cells nm ns (ws ++ [_])).length = _
    rw [runW_len cells nm ns, List.length_append, List.length_singleton, List.length_cons]; omega
theorem okB5 {ds ds' : List PyData} {kvs nk : KV} {M' : List Ob} (e : M'[0]? = some (.lst ds) ∧ M'[1]? = some (.dic kvs) ∧ M'[3]? = some (.lst ds') ∧ M'[4]? = some (.dic nk) ∧ M'[6]? = some (.tpp [.p 3, .p 4])) {Qu : U → List Ob → Prop} {M0 : List Ob} (h2 : M0.length = 2) (q : Qu (.p 4) [.lst ds, .dic kvs, .lst ds', .dic nk, .tpp [.p 2, .p 3]]) : Fin' M0 Qu (.p 6) M' := by
  obtain ⟨e0, e1, e3, e4, e6⟩ := e
  have hl : 6 < M'.length := (List.getElem?_eq_some_iff.mp e6).1
  have g : ∀ i o, M'[i]? = some o → M'.getD i .dead = o := fun i o h => by rw [List.getD_eq_getElem?_getD, h]; rfl
  refine .inr ⟨[0, 1, 3, 4, 6], [3, 4, 6], by rw [h2]; rfl, by decide, ?_, ?_, ?_, ?_⟩
  · intro i hi
    simp only [List.mem_cons, List.not_mem_nil, or_false] at hi
    omega
  · show 6 ∈ [0, 1, 3, 4, 6]; decide
  · intro i hi
    simp only [List.mem_cons, List.not_mem_nil, or_false] at hi
    rcases hi with rfl | rfl | rfl | rfl | rfl
    · rw [g _ _ e0]; exact trivial
    · rw [g _ _ e1]; exact trivial
    · rw [g _ _ e3]; exact trivial
    · rw [g _ _ e4]; exact trivial
    · rw [g _ _ e6]
      intro u hu
      simp only [List.mem_cons, List.not_mem_nil, or_false] at hu
      rcases hu with rfl | rfl
      · show 3 ∈ [0, 1, 3, 4, 6]; decide
      · show 4 ∈ [0, 1, 3, 4, 6]; decide
  · simp only [List.map_cons, List.map_nil, g _ _ e0, g _ _ e1, g _ _ e3, g _ _ e4, g _ _ e6]
    exact q
theorem keysU_map (kvs : KV) : (kvs.map fun p => keyU p.1) = (kvs.map fun p => kD p.1).map U.d := by
  rw [List.map_map]
  refine List.map_congr_left fun p _ => ?_
  obtain ⟨k, d⟩ := p
  cases k <;> rfl
theorem runW_app (c : List Int) (nm : Str → Int) : ∀ (xs ys : List NdT) (ws : List Int), runW c nm (xs ++ ys) ws = runW c nm ys (runW c nm xs ws)
  | [], ys, ws => rfl
  | x :: xs, ys, ws => runW_app c nm xs ys _
theorem runW_ext (c : List Int) (nm : Str → Int) : ∀ (xs : List NdT) (ws : List Int), ∃ vs, runW c nm xs ws = ws ++ vs ∧ vs.length = xs.length
  | [], ws => ⟨[], by simp [runW], rfl⟩
  | x :: xs, ws => by
    obtain ⟨vs, h, hl⟩ := runW_ext c nm xs (ws ++ [partW c nm x.1 x.2.1 (someW ws x.2.2)])
    exact ⟨partW c nm x.1 x.2.1 (someW ws x.2.2) :: vs, by show runW c nm xs _ = _; rw [h]; simp, by simp [hl]⟩
theorem okRun_app : ∀ (xs ys : List NdT) (k : Nat), okRun xs k → okRun ys (k + xs.length) → okRun (xs ++ ys) k
  | [], ys, k, _, h => h
  | x :: xs, ys, k, h, h2 => ⟨h.1, h.2.1, okRun_app xs ys (k + 1) h.2.2 (by rw [List.length_cons] at h2; rwa [show k + 1 + xs.length = k + (xs.length + 1) by omega])⟩
theorem someW_app {ws vs : List Int} {ks : List Nat} (h : ∀ k ∈ ks, k < ws.length) : someW (ws ++ vs) ks = someW ws ks := by
  refine List.map_congr_left fun k hk => ?_
  rw [List.getD_eq_getElem?_getD, List.getD_eq_getElem?_getD, List.getElem?_append_left (h k hk)]
theorem runW_at (c : List Int) (nm : Str → Int) : ∀ (ns : List NdT) (ws : List Int), okRun ns ws.length → ∀ (i : Nat) (n : NdT), ns[i]? = some n → (runW c nm ns ws).getD (ws.length + i) 0 = partW c nm n.1 n.2.1 (someW (runW c nm ns ws) n.2.2)
  | x :: xs, ws, h, 0, n, e => by
    have e' : x = n := by simpa using e
    subst e'
    obtain ⟨vs, hv, _⟩ := runW_ext c nm xs (ws ++ [partW c nm x.1 x.2.1 (someW ws x.2.2)])
    have e2 : runW c nm (x :: xs) ws = ws ++ (partW c nm x.1 x.2.1 (someW ws x.2.2) :: vs) := by show runW c nm xs _ = _; rw [hv]; simp
    rw [e2, someW_app h.2.1.2, List.getD_eq_getElem?_getD, List.getElem?_append_right (by omega)]
    simp
  | x :: xs, ws, h, i + 1, n, e => by
    have := runW_at c nm xs (ws ++ [partW c nm x.1 x.2.1 (someW ws x.2.2)]) (by rw [List.length_append]; exact h.2.2) i n (by simpa using e)
    rw [List.length_append, List.length_singleton, show ws.length + 1 + i = ws.length + (i + 1) by omega] at this
    exact this

theorem runW_word {cells : List Int} {nm : Str → Int} (hc : ∀ w ∈ cells, wordI w) (hn : ∀ s, wordI (nm s)) : ∀ (ns : List NdT) (ws : List Int), okRun ns ws.length → (∀ w ∈ ws, wordI w) → ∀ w ∈ runW cells nm ns ws, wordI w
  | [], ws, _, h => h
  | n :: ns, ws, ho, h => by
    refine runW_word hc hn ns _ (by rw [List.length_append]; exact ho.2.2) fun w hw => ?_
    rcases List.mem_append.mp hw with hw | hw
    · exact h w hw
    · rw [List.mem_singleton.mp hw]
      exact part_word hc hn (by rw [some_len]; exact ho.1)
theorem same_part {cells : List Int} {n1 n2 : Str → Int} (h : ∀ s, n1 s = n2 s) (op : Str) (mark : PyData) (ws : List Int) : partW cells n1 op mark ws = partW cells n2 op mark ws := by
  rw [show n1 = n2 from funext h]
structure Behind (cs : List Int) (kvs nk : KV) (nds : List NdT) (dd : NdT) : Prop where
  a : StOk (deedC dd.1 (wordsOf cs kvs nds dd) cs) (deedK dd.1 dd.2.1 (wordsOf cs kvs nds dd) kvs)
  b : StOk (deedC dd.1 (wordsOf cs nk nds dd) cs) (if dd.1 = "put" then nk else putD nk (.inr (markS dd.2.1)) (.int ((wordsOf cs nk nds dd).getD 0 0)))
  c : deedC dd.1 (wordsOf cs nk nds dd) cs = deedC dd.1 (wordsOf cs kvs nds dd) cs
  d : ∀ s, nat_ (deedK dd.1 dd.2.1 (wordsOf cs kvs nds dd) kvs) s = nat_ (if dd.1 = "put" then nk else putD nk (.inr (markS dd.2.1)) (.int ((wordsOf cs nk nds dd).getD 0 0))) s
theorem behind_ok {N : Nat} {cs : List Int} {kvs nk : KV} (t : TwinN N cs kvs nk) (hN : N ≤ 800 := by decide) {nds : List NdT} {dd : NdT} (w : WebS nds dd) : Behind cs kvs nk nds dd := by
  have ew : wordsOf cs nk nds dd = wordsOf cs kvs nds dd := by
    unfold wordsOf; rw [show nat_ nk = nat_ kvs from funext fun s => (t.same s).symm]
  have hw : ∀ x ∈ wordsOf cs kvs nds dd, wordI x := some_word (runW_word t.a.words (nat_word t.a.tab.1) nds [] w.run (fun _ h => nomatch h)) _
  have hC : ∀ ws : List Int, (∀ x ∈ ws, wordI x) → (deedC dd.1 ws cs).length = 64 ∧ ∀ x ∈ deedC dd.1 ws cs, wordI x := fun ws h => by
    unfold deedC
    split
    · exact ⟨by rw [List.length_set]; exact t.a.len, words_set t.a.words (getD_word h 1) _⟩
    · exact ⟨t.a.len, t.a.words⟩
  have s1 := t.small.1
  have s2 := t.small.2
  have hcc := hC _ hw
  obtain ⟨op, mark, kids⟩ := dd
  rcases w.deed with ⟨e, _⟩ | ⟨e, _, s, e2, hs⟩
  · have e' : op = "put" := e
    subst e'
    exact ⟨⟨hcc.1, hcc.2, t.a.tab, t.a.size⟩, by rw [ew]; exact ⟨hcc.1, hcc.2, t.b.tab, t.b.size⟩, by rw [ew], t.same⟩
  · have e' : op = "set" := e
    have e2' : mark = .str s := e2
    subst e'; subst e2'
    have hg := getD_word hw 0
    have l1 := give_len kvs s ((wordsOf cs kvs nds ("set", .str s, kids)).getD 0 0)
    have l2 := putD_len nk (.inr s) (.int ((wordsOf cs kvs nds ("set", .str s, kids)).getD 0 0))
    refine ⟨⟨hcc.1, hcc.2, tab_give t.a.tab hg hs, Nat.le_trans l1 (by omega : kvs.length + 1 ≤ 900)⟩, by rw [ew]; exact ⟨hcc.1, hcc.2, tab_put t.b.tab hg hs, Nat.le_trans l2 (by omega : nk.length + 1 ≤ 900)⟩, by rw [ew], fun x => ?_⟩
    rw [ew]
    show nat_ (giveD kvs s _) x = nat_ (putD nk (.inr s) (.int _)) x
    rw [nat_give, nat_put, t.same]
theorem deed_nz {op : Str} {mark : PyData} {ws : List Int} {kvs : KV} (h : NZ kvs) : NZ (deedK op mark ws kvs) := by
  unfold deedK
  split
  · exact h
  · exact nz_give h _ _
theorem behind_more {N : Nat} {cs : List Int} {kvs nk : KV} (t : TwinN N cs kvs nk) (nds : List NdT) (dd : NdT) : NZ (deedK dd.1 dd.2.1 (wordsOf cs kvs nds dd) kvs) ∧ (deedK dd.1 dd.2.1 (wordsOf cs kvs nds dd) kvs).length ≤ N + 1 ∧ (if dd.1 = "put" then nk else putD nk (.inr (markS dd.2.1)) (.int ((wordsOf cs nk nds dd).getD 0 0))).length ≤ N + 1 := by
  have s1 := t.small.1
  have s2 := t.small.2
  refine ⟨deed_nz t.nz, ?_, ?_⟩
  · unfold deedK
    split
    · omega
    · have := give_len kvs (markS dd.2.1) ((wordsOf cs kvs nds dd).getD 0 0); omega
  · split
    · omega
    · have := putD_len nk (.inr (markS dd.2.1)) (.int ((wordsOf cs nk nds dd).getD 0 0)); omega
/-- the two behind a web, side by side -/
theorem behind_twin {N : Nat} {cs : List Int} {kvs nk : KV} (t : TwinN N cs kvs nk) (hN : N ≤ 800) {nds : List NdT} {dd : NdT} (w : WebS nds dd) : ∃ cs2 kv2 nk2, deedC dd.1 (wordsOf cs kvs nds dd) cs = cs2 ∧ deedC dd.1 (wordsOf cs nk nds dd) cs = cs2 ∧ deedK dd.1 dd.2.1 (wordsOf cs kvs nds dd) kvs = kv2 ∧
    (if dd.1 = "put" then nk else putD nk (.inr (markS dd.2.1)) (.int ((wordsOf cs nk nds dd).getD 0 0))) = nk2 ∧ TwinN (N + 1) cs2 kv2 nk2 := by
  obtain ⟨ca, cb, cc, cd⟩ := behind_ok t hN w
  obtain ⟨z2, s1, s2⟩ := behind_more t nds dd
  refine ⟨_, _, _, rfl, cc, rfl, rfl, ⟨ca, ?_, cd, ⟨s1, s2⟩, z2⟩⟩
  rw [← cc]; exact cb

def Nd.tup (n : Nd) : NdT := (n.op, n.mark, n.kids)
theorem encNd_tup (n : Nd) : encNd n.tup = n.enc := rfl
theorem enc_web_tup (parts : List Nd) (deed : Nd) : encWeb (parts ++ [deed]) = .list ((parts.map Nd.tup ++ [deed.tup]).map encNd) := by
  unfold encWeb
  rw [List.map_append, List.map_append, List.map_map]; rfl
theorem ok_run_of : ∀ (ns : List Nd) (k : Nat), (∀ i n, ns[i]? = some n → GoodNd (k + i) n) → okRun (ns.map Nd.tup) k
  | [], _, _ => trivial
  | n :: ns, k, h => by
    have h0 := h 0 n rfl
    refine ⟨?_, ?_, ok_run_of ns (k + 1) fun i m e => by have := h (i + 1) m (by simpa using e); rwa [show k + (i + 1) = k + 1 + i by omega] at this⟩
    · obtain ⟨op, mark, kids⟩ := n
      rcases h0 with ⟨a, ⟨w, b, w0, w1⟩, c⟩ | ⟨a, ⟨s, b, hs⟩, c⟩ | ⟨a, b, x, c, h1⟩ | ⟨a, b, x, y, c, h1, h2⟩ <;> dsimp only at a b c <;> subst b <;> subst c
      · exact .inl ⟨a, w, rfl, w0, w1⟩
      · exact .inr (.inl ⟨a, s, rfl⟩)
      · exact .inr (.inr (.inl ⟨a, Nat.le_refl _⟩))
      · exact .inr (.inr (.inr ⟨a, Nat.le_refl _⟩))
    · obtain ⟨op, mark, kids⟩ := n
      rcases h0 with ⟨a, ⟨w, b, w0, w1⟩, c⟩ | ⟨a, ⟨s, b, hs⟩, c⟩ | ⟨a, b, x, c, h1⟩ | ⟨a, b, x, y, c, h1, h2⟩ <;> dsimp only at a b c <;> subst b <;> subst c
      · exact ⟨by simp [Nd.tup], fun i hi => nomatch hi⟩
      · exact ⟨by simp [Nd.tup], fun i hi => nomatch hi⟩
      · refine ⟨by simp [Nd.tup], fun i hi => ?_⟩
        have : i = x := by simpa [Nd.tup] using hi
        omega
      · refine ⟨by simp [Nd.tup], fun i hi => ?_⟩
        have : i = x ∨ i = y := by simpa [Nd.tup] using hi
        omega
theorem webS_of {once : Bool} {parts : List Nd} {deed : Nd} (h : WebG once parts deed) (hl : parts.length ≤ 900) : WebS (parts.map Nd.tup) deed.tup := by
  refine ⟨ok_run_of parts 0 fun i n e => by rw [Nat.zero_add]; exact h.part i n e, ?_, ?_, by rw [List.length_map]; exact hl⟩
  · obtain ⟨op, mark, kids⟩ := deed
    rcases h.dd with ⟨a, b, x, y, c, h1, h2⟩ | ⟨a, ⟨s, b, hs⟩, x, c, h1⟩ <;> dsimp only at a b c <;> subst b <;> subst c
    · exact .inl ⟨a, Nat.le_refl _⟩
    · exact .inr ⟨a, Nat.le_refl _, s, rfl, hs⟩
  · rw [List.length_map]
    obtain ⟨op, mark, kids⟩ := deed
    rcases h.dd with ⟨a, b, x, y, c, h1, h2⟩ | ⟨a, ⟨s, b, hs⟩, x, c, h1⟩ <;> dsimp only at a b c h1 <;> subst b <;> subst c
    · refine ⟨by simp [Nd.tup], fun i hi => ?_⟩
      have : i = x ∨ i = y := by simpa [Nd.tup] using hi
      have h2' : y < parts.length := h2
      omega
    · refine ⟨by simp [Nd.tup], fun i hi => ?_⟩
      have : i = x := by simpa [Nd.tup] using hi
      omega
/-- what a drawn web is, as nodes told in threes -/
structure Drawn (nds : List NdT) (dd : NdT) : Prop where
  ok : WebS nds dd
  tame : tame (.list ((nds ++ [dd]).map encNd)) = true
  depth : (PyData.list ((nds ++ [dd]).map encNd)).depth ≤ 3
  len : 1 ≤ nds.length ∧ nds.length ≤ 39
theorem drawn_of {once : Bool} {parts : List Nd} {deed : Nd} (h : WebG once parts deed) (h1 : 1 ≤ parts.length) (hl : parts.length + 1 ≤ 40) : Drawn (parts.map Nd.tup) deed.tup := by
  obtain ⟨t, c, d⟩ := web_tame h.part h.dd (by omega)
  rw [enc_web_tup] at t d
  exact ⟨webS_of h (by omega), t, d, by rw [List.length_map]; omega⟩
theorem Drawn.shaped {nds : List NdT} {dd : NdT} (h : Drawn nds dd) : SeqAt.shaped (.list ((nds ++ [dd]).map encNd)) = true := tame_shaped h.tame (by have := h.depth; omega)
theorem Drawn.eqv {nds : List NdT} {dd : NdT} (h : Drawn nds dd) : PyData.eqv (.list ((nds ++ [dd]).map encNd)) (.list ((nds ++ [dd]).map encNd)) = true := SeqAt.eqv_refl _ (by have := h.shaped; simp only [SeqAt.shaped, Bool.and_eq_true] at this; exact this.1)
theorem nz_nat {a : KV} (ha : Tab a) (za : NZ a) {p : Key × PyData} (hp : p ∈ a) : ∃ s, p = (.inr s, .int (nat_ a s)) ∧ nat_ a s ≠ 0 := by
  obtain ⟨s, w, rfl, _⟩ := ha.1 p hp
  have e := PyData.int.inj (nat_val ha.1 (val_mem ha.2 hp))
  subst e
  exact ⟨s, rfl, fun z => za _ hp (by show PyData.int (nat_ a s) = _; rw [z])⟩
theorem val_of_nat {b : KV} (hb : Nums b) {s : Str} (h : nat_ b s ≠ 0) : valD b (.inr s) = some (.int (nat_ b s)) := by
  rcases nums_val hb s with e | ⟨w, e, _⟩
  · exact absurd (nat_none e) h
  · rw [e]; exact congrArg some (nat_val hb e)
theorem nodup_sub {α : Type} : ∀ {xs ys : List α}, xs.Nodup → (∀ x ∈ xs, x ∈ ys) → xs.length ≤ ys.length
  | [], ys, _, _ => Nat.zero_le _
  | x :: xs, ys, nd, h => by
    letI : DecidableEq α := fun a b => Classical.propDecidable (a = b)
    rw [List.nodup_cons] at nd
    have hx := h x List.mem_cons_self
    have := nodup_sub (xs := xs) (ys := ys.erase x) nd.2 fun y hy => (List.mem_erase_of_ne (fun (e : y = x) => nd.1 (by rw [← e]; exact hy))).mpr (h y (List.mem_cons_of_mem _ hy))
    rw [List.length_erase_of_mem hx] at this
    have hp := List.length_pos_of_mem hx
    rw [List.length_cons]; omega
theorem same_t {a b : KV} (ha : Tab a) (hb : Tab b) (za : NZ a) (zb : NZ b) (h : ∀ s, nat_ a s = nat_ b s) : SameT a b := by
  have sub : ∀ {a b : KV}, Tab a → Tab b → NZ a → (∀ s, nat_ a s = nat_ b s) → (∀ p ∈ a, valD b p.1 = some p.2) ∧ ∀ k ∈ a.map (·.1), k ∈ b.map (·.1) := fun {a b} ha hb za h => by
    have v : ∀ p ∈ a, valD b p.1 = some p.2 := fun p hp => by
      obtain ⟨s, e, hn⟩ := nz_nat ha za hp
      rw [e, h s]
      exact val_of_nat hb.1 (by rw [← h s]; exact hn)
    refine ⟨v, fun k hk => ?_⟩
    obtain ⟨p, hp, rfl⟩ := List.mem_map.mp hk
    apply Classical.byContradiction
    intro hn
    have := v p hp
    rw [valD_none (by rw [any_key]; exact hn)] at this
    cases this
  have s1 := sub ha hb za h
  have s2 := sub hb ha zb fun s => (h s).symm
  have l1 := nodup_sub ha.2 s1.2
  have l2 := nodup_sub hb.2 s2.2
  rw [List.length_map, List.length_map] at l1 l2
  exact ⟨by omega, s1.1⟩
theorem same_self {a : KV} (ha : Tab a) : SameT a a := ⟨rfl, fun _ hp => val_mem ha.2 hp⟩
theorem intL_flat (ws : List Int) : ∀ d ∈ intL ws, flatD d = true := fun d hd => by
  obtain ⟨w, _, rfl⟩ := List.mem_map.mp hd; rfl
theorem flat_do {C : Addr} {cs cs2 : List Int} {kvs kv2 : KV} (h : Nums kvs) (h2 : Nums kv2) : ∀ o ∈ [stI C, .lst (intL cs), .dic kvs, stJ C 3, .lst (intL cs2), .dic kv2], flatOb o := by
  intro o ho
  simp only [List.mem_cons, List.not_mem_nil, or_false] at ho
  rcases ho with rfl | rfl | rfl | rfl | rfl | rfl
  · intro p hp
    simp only [List.mem_cons, List.not_mem_nil, or_false] at hp
    rcases hp with rfl | rfl <;> exact ⟨_, rfl⟩
  · exact intL_flat cs
  · exact nums_flat h
  · intro p hp
    simp only [List.mem_cons, List.not_mem_nil, or_false] at hp
    rcases hp with rfl | rfl <;> exact ⟨_, rfl⟩
  · exact intL_flat cs2
  · exact nums_flat h2

structure Bn (web : List Nd) (a : Nat) (F S : List Nat) : Prop where
  nd : F.Nodup
  lt : ∀ x ∈ F, x < web.length
  ls : ∀ x ∈ S, x < web.length
  top : a ∈ F ∨ a ∈ S
  cl : ∀ x ∈ F, ∀ k ∈ kidsAt web x, k ∈ F ∨ k ∈ S
theorem bn_end {web : List Nd} {a : Nat} {F : List Nat} (h : Bn web a F []) : ∀ x, Rch web a x → x ∈ F := fun x hx => by
  induction hx with
  | top => exact h.top.resolve_right (fun z => nomatch z)
  | kid q hk ih => exact (h.cl _ ih _ hk).resolve_right (fun z => nomatch z)
theorem bn_skip {web : List Nd} {a x : Nat} {F S : List Nat} (h : Bn web a F (S ++ [x])) (hx : x ∈ F) : Bn web a F S where
  nd := h.nd
  lt := h.lt
  ls := fun y hy => h.ls y (List.mem_append_left _ hy)
  top := h.top.elim .inl fun q => (List.mem_append.mp q).elim .inr fun e => .inl (by rw [List.mem_singleton.mp e]; exact hx)
  cl := fun y hy k hk => (h.cl y hy k hk).elim .inl fun q => (List.mem_append.mp q).elim .inr fun e => .inl (by rw [List.mem_singleton.mp e]; exact hx)
theorem bn_take {web : List Nd} (hk : KidsLt web) {a x : Nat} {F S : List Nat} (h : Bn web a F (S ++ [x])) (hx : x ∉ F) : Bn web a (F ++ [x]) (S ++ kidsAt web x) where
  nd := List.nodup_append.mpr ⟨h.nd, by simp, fun y hy z hz e => by
    have : z = x := by simpa using hz
    subst this; subst e; exact hx hy⟩
  lt := fun y hy => (List.mem_append.mp hy).elim (h.lt y) fun e => by rw [List.mem_singleton.mp e]; exact h.ls x (by simp)
  ls := fun y hy => (List.mem_append.mp hy).elim (fun q => h.ls y (List.mem_append_left _ q)) fun q => by
    have := (hk x).1 y q
    have := h.ls x (by simp)
    omega
  top := h.top.elim (fun q => .inl (List.mem_append_left _ q)) fun q => (List.mem_append.mp q).elim (fun q => .inr (List.mem_append_left _ q)) fun e => .inl (by rw [List.mem_singleton.mp e]; simp)
  cl := fun y hy k hk2 => by
    rcases List.mem_append.mp hy with q | q
    · rcases h.cl y q k hk2 with z | z
      · exact .inl (List.mem_append_left _ z)
      · rcases List.mem_append.mp z with z | z
        · exact .inr (List.mem_append_left _ z)
        · rw [List.mem_singleton.mp z]; exact .inl (by simp)
    · rw [List.mem_singleton.mp q] at hk2
      exact .inr (List.mem_append_right _ hk2)
def sp_beneath : DSp := fun us M Q => ∃ (web : List Nd) (a : Nat), us = [.d (encWeb web), .d (.int (a : Int))] ∧ M = [] ∧ KidsLt web ∧ a < web.length ∧ web.length ≤ 100 ∧ ∀ F : List Nat, (∀ x, Rch web a x → x ∈ F) → Q (.d (.list (encKids F))) []
def wsOf (cs : List Int) (nk : KV) (parts : List Nd) : List Int := runW cs (nat_ nk) (parts.map Nd.tup) []
def needW (cs : List Int) (nk : KV) (parts : List Nd) (ns : List (Nat × Str)) : List Int := ns.map fun x => (wsOf cs nk parts).getD x.1 0
@[irreducible] def sp_pattern_word : Nat → DSp := fun lv us M Q => ∃ (parts : List Nd) (deed : Nd) (cs : List Int) (nk : KV) (p : Pat) (a : Nat) (ns : List (Nat × Str)) (ms : List PyData) (r1 : List Int) (r2 : List PyData),
  us = [.d p.enc, .p 0, .p 1, .p 2, .p 3] ∧ M = [.lst (intL (needW cs nk parts ns ++ r1)), .lst (ms ++ r2), .lst (intL cs), .dic nk] ∧ StOk cs nk ∧ PartOk parts ∧ DeedOk parts.length deed ∧ parts.length ≤ 100 ∧
  fit (parts ++ [deed]) p a = some (ns, ms) ∧ a < parts.length ∧ p.good ∧ p.depth ≤ lv ∧ ns.length + r1.length ≤ 100000 ∧ ms.length + r2.length ≤ 100000 ∧
  Q (.d (.int ((wsOf cs nk parts).getD a 0))) [.lst (intL r1), .lst r2, .lst (intL cs), .dic nk]
theorem ask_pword {lv : Nat} {parts : List Nd} {deed : Nd} {cs : List Int} {nk : KV} {p : Pat} {a : Nat} {ns : List (Nat × Str)} {ms : List PyData} {r1 : List Int} {r2 : List PyData} {Q : U → List Ob → Prop} (ok : StOk cs nk) (hp : PartOk parts) (hd : DeedOk parts.length deed) (hl : parts.length ≤ 100)
    (hf : fit (parts ++ [deed]) p a = some (ns, ms)) (ha : a < parts.length) (hg : p.good) (hdp : p.depth ≤ lv) (hn : ns.length + r1.length ≤ 100000) (hm : ms.length + r2.length ≤ 100000)
    (q : Q (.d (.int ((wsOf cs nk parts).getD a 0))) [.lst (intL r1), .lst r2, .lst (intL cs), .dic nk]) :
    sp_pattern_word lv [.d p.enc, .p 0, .p 1, .p 2, .p 3] [.lst (intL (needW cs nk parts ns ++ r1)), .lst (ms ++ r2), .lst (intL cs), .dic nk] Q := by
  unfold sp_pattern_word
  exact ⟨parts, deed, cs, nk, p, a, ns, ms, r1, r2, rfl, rfl, ok, hp, hd, hl, hf, ha, hg, hdp, hn, hm, q⟩
theorem leaf_inv {web : List Nd} {p : Pat} {a : Nat} {n : Nd} {ns : List (Nat × Str)} {ms : List PyData} (hn : web[a]? = some n) (h : leafFit web p a = some (ns, ms)) : isFit p n = true ∧ ns = [] ∧ ms = marks0 n := by
  unfold leafFit at h
  rw [hn] at h
  simp only at h
  split at h
  · rename_i e
    cases h
    exact ⟨e, rfl, rfl⟩
  · cases h
theorem num_mark {l : Nat} {n : Nd} (h : GoodNd l n) (e : n.op = "num") : ∃ w : Int, n.mark = .int w ∧ wordI w := by
  rcases h with ⟨_, ⟨w, b, w0, w1⟩, _⟩ | ⟨a, _⟩ | ⟨a, _⟩ | ⟨a, _⟩
  · exact ⟨w, b, w0, w1⟩
  · rw [a] at e; exact absurd e (by decide)
  · exact absurd e (ar1 _ a).2.1
  · exact absurd e (ar2 _ a).2.1
theorem var_mark {l : Nat} {n : Nd} (h : GoodNd l n) (e : n.op = "var") : ∃ s, n.mark = .str s := by
  rcases h with ⟨a, _⟩ | ⟨_, ⟨s, b, _⟩, _⟩ | ⟨a, _⟩ | ⟨a, _⟩
  · rw [a] at e; exact absurd e (by decide)
  · exact ⟨s, b⟩
  · exact absurd e (ar1 _ a).2.2
  · exact absurd e (ar2 _ a).2.2
theorem pop0_ok {d : PyData} {ds : List PyData} : seqIndex? 0 (d :: ds).length = some 0 := PySem.seqIndex_of (by decide) (by simp only [List.length_cons]; omega)
def sp_deed_right (C : Addr) : DSp := fun us M Q => ∃ (once : Bool) (parts : List Nd) (deed : Nd) (cs : List Int) (kvs nk : KV) (p : Pat) (ns : List (Nat × Str)) (ms : List PyData),
  us = [.d (encWeb (parts ++ [deed])), .p 0, .d p.enc, .p 3, .p 4, .p 5, .p 6] ∧ M = [stI C, .lst (intL cs), .dic kvs, .lst (intL (needW cs nk parts ns)), .lst ms, .lst (intL cs), .dic nk] ∧ Twin cs kvs nk ∧ WebG once parts deed ∧ 1 ≤ parts.length ∧ parts.length ≤ 60 ∧
  fit (parts ++ [deed]) p parts.length = some (ns, ms) ∧ p.top ∧ p.depth ≤ 8 ∧ ns.length ≤ 1000 ∧ ms.length ≤ 1000 ∧ Q (.d (.bool true)) [stI C, .lst (intL cs), .dic kvs, .lst [], .lst [], .lst (intL cs), .dic nk]
theorem unused_ok : WebS [("num", .int 0, [])] ("set", .str "unused", [0]) := ⟨⟨.inl ⟨rfl, 0, rfl, by decide, by decide⟩, ⟨by simp, by simp⟩, trivial⟩, .inr ⟨rfl, Nat.le_refl _, _, rfl, by decide +kernel, by decide +kernel, by decide +kernel⟩, ⟨by simp, by simp⟩, by simp⟩
theorem unused_c (cs : List Int) (kvs : KV) : deedC (("set", .str "unused", [0]) : NdT).1 (wordsOf cs kvs [("num", .int 0, [])] ("set", .str "unused", [0])) cs = cs := rfl
theorem unused_k (cs : List Int) (kvs : KV) : deedK (("set", .str "unused", [0]) : NdT).1 (("set", .str "unused", [0]) : NdT).2.1 (wordsOf cs kvs [("num", .int 0, [])] ("set", .str "unused", [0])) kvs = giveD kvs "unused" 0 := rfl
theorem deed_mark0 {l : Nat} {n : Nd} (h : DeedOk l n) : (n.op = "put" ∧ marks0 n = []) ∨ (n.op = "set" ∧ ∃ s, n.mark = .str s ∧ nameOk s ∧ marks0 n = [.str s]) := by
  rcases h with ⟨a, b, _⟩ | ⟨a, ⟨s, b, hs⟩, _⟩
  · exact .inl ⟨a, by unfold marks0; rw [b]⟩
  · exact .inr ⟨a, s, b, hs, by unfold marks0; rw [b]⟩
theorem bools_of17 {α : Type} (ks : List α) (f : α → Bool) : bools (ks.map fun x => PyData.bool (f x)) = some (ks.map f) := by
  rw [← bools_map (ks.map f), List.map_map]; rfl
def patL (rs : List Rule) : List (Key × PyData) := rs.map fun r => ((.inr r.name : Key), r.pat.enc)
theorem pat_get {rs : List Rule} (h : (rs.map Rule.name).Nodup) : ∀ r ∈ rs, valD (patL rs) (.inr r.name) = some r.pat.enc := by
  induction rs with
  | nil => intro r hr; cases hr
  | cons x rs ih =>
    intro r hr
    rw [List.map_cons, List.nodup_cons] at h
    unfold valD patL at ih ⊢
    rw [List.map_cons, List.find?_cons]
    rcases List.mem_cons.mp hr with rfl | hr
    · rw [decide_eq_true rfl]; rfl
    · rw [decide_eq_false (fun e => h.1 (List.mem_map.mpr ⟨r, hr, (Sum.inr.inj e).symm⟩))]
      exact ih h.2 r hr
theorem pat_merge {rs : List Rule} (h : (rs.map Rule.name).Nodup) : mergeD [] (patL rs) = patL rs := by
  rw [rmerge_nodup, List.nil_append]
  rw [List.map_nil, List.nil_append]
  unfold patL
  rw [List.map_map]
  show (rs.map fun r => (Sum.inr r.name : Key)).Nodup
  have : (rs.map fun r => (Sum.inr r.name : Key)) = (rs.map Rule.name).map Sum.inr := by rw [List.map_map]; rfl
  rw [this]
  exact List.Pairwise.map _ (fun a b hab e => hab (Sum.inr.inj e)) h
theorem pat_pairs (rs : List Rule) : (rs.map fun r => PyData.tuple [.str r.name, r.pat.enc]) = pairsD (patL rs) := by
  unfold pairsD patL; rw [List.map_map]; rfl
theorem rows_mem {web : List Nd} {a : Nat} {rs : List Rule} : ∀ x ∈ rowsL web a rs, ∃ r ∈ rs, x.1 = r.name ∧ fit web r.pat a = some (x.2.1, x.2.2) := by
  intro x hx
  unfold rowsL at hx
  obtain ⟨l, hl1, hx⟩ := List.mem_flatten.mp hx
  obtain ⟨r, hr1, rfl⟩ := List.mem_map.mp hl1
  unfold row1 at hx
  split at hx
  · cases hx
  · rename_i ns ms e
    rw [List.mem_singleton.mp hx]
    exact ⟨r, hr1, rfl, e⟩
theorem rch_emb {web : List Nd} (hk : KidsLt web) {top : Nat} (ht : top < web.length) : Emb web web (fun i => Rch web top i) id := ⟨fun i hi => by
  have hle := rch_le hk hi
  obtain ⟨e1, e2⟩ := at_kids (web := web) (i := i) (by omega)
  exact ⟨_, e2, by rw [List.map_id]; exact e2, fun k hk2 => .kid hi (by rw [← e1]; exact hk2)⟩⟩
theorem part_good {parts : List Nd} {deed : Nd} {p : Pat} {a : Nat} {x : List (Nat × Str) × List PyData} (hp : PartOk parts) (ha : a < parts.length) (hg : p.top) (hf : fit (parts ++ [deed]) p a = some x) : p.good := by
  cases p with
  | op o ps =>
    refine ⟨?_, hg.2⟩
    have hna : (parts ++ [deed])[a]? = some parts[a] := by rw [List.getElem?_append_left ha, List.getElem?_eq_getElem ha]
    have hgn := hp a _ (List.getElem?_eq_getElem ha)
    have hop : (parts[a]).op = o := by
      unfold fit at hf
      rw [hna] at hf
      simp only at hf
      split at hf
      · rename_i e; exact e
      · cases hf
    have hno : o ≠ "put" ∧ o ≠ "set" := by
      rw [← hop]
      rcases hgn with ⟨q, _⟩ | ⟨q, _⟩ | ⟨q, _⟩ | ⟨q, _⟩
      · rw [q]; decide
      · rw [q]; decide
      · exact (by decide : ∀ o ∈ ops1, o ≠ "put" ∧ o ≠ "set") _ q
      · exact (by decide : ∀ o ∈ ops2, o ≠ "put" ∧ o ≠ "set") _ q
    rcases hg.1 with ⟨q, _⟩ | ⟨q, _⟩ | q | q
    · exact absurd q hno.2
    · exact absurd q hno.1
    · exact .inl q
    · exact .inr q
  | _ => exact hg
theorem word_at17 (ws : List Int) (i : Nat) (h : i < ws.length + 1) : atI (intL ws ++ [.int 0]) (i : Int) = some (.int (ws.getD i 0)) := by
  unfold atI ixN
  rw [if_pos (by omega), if_pos (by rw [List.length_append, show (intL ws).length = ws.length from List.length_map _]; simp; omega)]
  show (intL ws ++ [PyData.int 0])[i]? = _
  have hl : (intL ws).length = ws.length := List.length_map _
  by_cases h2 : i < ws.length
  · rw [List.getElem?_append_left (by omega)]
    unfold intL
    rw [List.getElem?_map, List.getElem?_eq_getElem h2, List.getD_eq_getElem?_getD, List.getElem?_eq_getElem h2]; rfl
  · have e : i = ws.length := by omega
    subst e
    rw [List.getElem?_append_right (by omega), hl, Nat.sub_self, List.getD_eq_getElem?_getD, List.getElem?_eq_none (Nat.le_refl _)]; rfl
theorem ask_pword0 {lv : Nat} {parts : List Nd} {deed : Nd} {cs : List Int} {nk : KV} {p : Pat} {a : Nat} {ns : List (Nat × Str)} {ms : List PyData} {Q : U → List Ob → Prop} (ok : StOk cs nk) (hp : PartOk parts) (hd : DeedOk parts.length deed) (hl : parts.length ≤ 100)
    (hf : fit (parts ++ [deed]) p a = some (ns, ms)) (ha : a < parts.length) (hg : p.good) (hdp : p.depth ≤ lv) (hn : ns.length ≤ 1000) (hm : ms.length ≤ 1000)
    (q : Q (.d (.int ((wsOf cs nk parts).getD a 0))) [.lst [], .lst [], .lst (intL cs), .dic nk]) :
    sp_pattern_word lv [.d p.enc, .p 0, .p 1, .p 2, .p 3] [.lst (intL (needW cs nk parts ns)), .lst ms, .lst (intL cs), .dic nk] Q := by
  have h := ask_pword (lv := lv) (r1 := []) (r2 := []) ok hp hd hl hf ha hg hdp (by simp; omega) (by simp; omega) q
  rw [List.append_nil, List.append_nil] at h
  exact h
theorem many4 (i : Int) (h0 : 0 ≤ i) (h4 : i < 4) : ∃ m : Nat, atI ([.int 6, .int 1, .int 12, .int 3] : List PyData) i = some (.int (m : Int)) ∧ 1 ≤ m ∧ m ≤ 12 := by
  have h : i = 0 ∨ i = 1 ∨ i = 2 ∨ i = 3 := by omega
  rcases h with rfl | rfl | rfl | rfl
  · exact ⟨6, rfl, by decide, by decide⟩
  · exact ⟨1, rfl, by decide, by decide⟩
  · exact ⟨12, rfl, by decide, by decide⟩
  · exact ⟨3, rfl, by decide, by decide⟩
theorem many12 (i : Int) (h0 : 0 ≤ i) (h4 : i < 3) : ∃ m : Nat, atI ([.int 12, .int 24, .int 6] : List PyData) i = some (.int (m : Int)) ∧ 1 ≤ m ∧ m ≤ 24 := by
  have h : i = 0 ∨ i = 1 ∨ i = 2 := by omega
  rcases h with rfl | rfl | rfl
  · exact ⟨12, rfl, by decide, by decide⟩
  · exact ⟨24, rfl, by decide, by decide⟩
  · exact ⟨6, rfl, by decide, by decide⟩
section
variable {P : Program} {w : World} {K : PySem.W.Frag} {mg : Str → Option Value} {base : Heap}
/-! ### bag -/
abbrev s_bag : Stmt := top 24
theorem sc_bag : FnScope ["_law_script", "_law_at", "_law_cell", "_law_great", "_law_primes"] ["_law_script", "_law_at"] (defScope s_bag) := ⟨rfl, rfl, rfl, by decide +kernel, rfl, by decide +kernel, by decide +kernel⟩
theorem ok_bag {f : Addr} {fd : FuncData} (F : Fun K "_law_bag" "_law_bag" s_bag f fd) (B : Bln mg) (G : Gln w K mg)
    : FnOk P w K mg base CX0 1 f fd ["_law_script", "_law_at"] (liftSp (sp_bag K)) := by
  refine F.ok sc_bag (lift_len (by rintro us M Q h; obtain ⟨ns, a, rfl, _⟩ := h; rfl)) (fun cdv A outer s H vs Q E hr h => ?_)
  refine def_ok ((ls_seq (ls_asg le_int (lg_name (i := 2)))
      (ls_cut (ls_if (lt_test (le_op lr_lt (le_var (i := 1)) (le_cb (lc_lenS (K := K)) (la_cons (le_var (i := 0)) la_nil)))) (ls_asg (le_op (lr_ixS (K := K)) (le_var (i := 0)) (le_var (i := 1))) (lg_name (i := 2))) ls_next)
      (ls_seq (ls_asg le_int (lg_name (i := 3)))
      (ls_cut (ls_if (lt_test (le_op lr_ge (le_cb lc_abs (la_cons (le_var (i := 2)) la_nil)) (le_op lr_pow le_int le_int))) (ls_asg (le_cb lc_abs (la_cons (le_var (i := 2)) la_nil)) (lg_name (i := 3))) ls_next)
      (ls_seq (ls_asg (le_lst (la_cons le_int (la_cons le_int (la_cons le_int (la_cons le_int (la_cons le_int (la_cons le_int (la_cons le_int (la_cons le_int la_nil))))))))) (lg_name (i := 4)))
      (ls_ret (le_lstC (la_cons (le_var (i := 3)) (la_cons (le_op lr_mod (le_op lr_pow (le_op (lr_add (K := K)) (le_op (lr_add (K := K)) (le_op lr_mod (le_var (i := 2)) le_int) (le_op lr_mulA le_int (le_var (i := 1)))) le_int) le_int) (le_op (lr_ix (K := K)) (le_var (i := 4)) (le_op lr_mod (le_var (i := 1)) le_int))) la_nil))))))))))
    ((pss_cons (ps_set (i := 2) sc_bag.nd rfl (Or.inl rfl) pe_int)
      (pss_cons (ps_if (pt_cmpR op_lt (pv 1) (pe_callB (x_len (K := K) rfl) (by rfl) B.len_ bt_len (pa_cons (pv 0) pa_nil)) (by first | exact nomark _ | rfl)) (pss_one (ps_set (i := 2) sc_bag.nd rfl (Or.inl rfl) (pe_ix (x_ix (K := K) rfl) (pv 0) (pv 1) (fun _ _ => rfl)))) pss_nil)
      (pss_cons (ps_set (i := 3) sc_bag.nd rfl (Or.inl rfl) pe_int)
      (pss_cons (ps_if (pt_cmpR op_ge (pe_callB call_abs (by rfl) B.abs_ bt_abs (pa_cons (pv 2) pa_nil)) (pe_op op_pow pe_int pe_int) (by first | exact nomark _ | rfl)) (pss_one (ps_set (i := 3) sc_bag.nd rfl (Or.inl rfl) (pe_callB call_abs (by rfl) B.abs_ bt_abs (pa_cons (pv 2) pa_nil)))) pss_nil)
      (pss_cons (ps_set (i := 4) sc_bag.nd rfl (Or.inl rfl) (pe_lst (pa_cons pe_int (pa_cons pe_int (pa_cons pe_int (pa_cons pe_int (pa_cons pe_int (pa_cons pe_int (pa_cons pe_int (pa_cons pe_int pa_nil))))))))))
      (pss_one (ps_ret (pe_lst (pa_cons (pv 3) (pa_cons (pe_op op_mod (pe_op op_pow (pe_op (x_add (K := K) rfl) (pe_op (x_add (K := K) rfl) (pe_op op_mod (pv 2) pe_int) (pe_op op_mulAll pe_int (pv 1))) pe_int) pe_int) (pe_ix (x_ix (K := K) rfl) (pv 4) (pe_op op_mod (pv 1) pe_int) (fun _ _ => rfl))) pa_nil)))))))))))
    h (fun us M Qu hd => ?_)
  obtain ⟨ns, at_, rfl, rfl, hl, h0, h1, k⟩ := hd
  refine ⟨fun ρ M => ∃ c : Int, ρ = [some (.s K ns), some (.d (.int at_)), some (.d (.int c)), none, none] ∧ M = [], ?_, ?_⟩
  · walk_at "go"
    refine witeD (fun hlt => ?_) (fun _ => ⟨0, rfl, rfl⟩)
    obtain ⟨c, hc⟩ : ∃ c, atI ns at_ = some c := by
      have hj : at_.toNat < ns.length := by omega
      refine ⟨ns[at_.toNat], ?_⟩
      unfold atI ixN
      rw [if_pos h0, if_pos hlt]
      exact List.getElem?_eq_getElem hj
    walk_at "go"
    exact ⟨_, _, _, rfl, rfl, hc, c, rfl, rfl⟩
  · rintro _ _ ⟨c, rfl, rfl⟩
    refine ⟨fun ρ M => ∃ g : Int, 0 ≤ g ∧ ρ = [some (.s K ns), some (.d (.int at_)), some (.d (.int c)), some (.d (.int g)), none] ∧ M = [], ?_, ?_⟩
    · walk_at "go"
      refine ⟨_, _, _, _, rfl, rfl, rfl, ⟨by decide, by decide, by decide⟩, ?_⟩
      walk_at "go"
      refine witeD (fun _ => ?_) (fun _ => ⟨0, by decide, rfl, rfl⟩)
      walk_at "go"
      exact ⟨_, (by split <;> omega), rfl, rfl⟩
    · rintro _ _ ⟨g, hg, rfl, rfl⟩
      walk_at "go"
      refine ⟨_, _, _, _, rfl, rfl, rfl, (by decide : (0 : Int) < 2147483647), ?_⟩
      walk_at "go"
      refine ⟨_, _, _, _, rfl, rfl, rfl, .inl ⟨by decide, by decide⟩, ?_⟩
      walk_at "go"
      have hm : 0 ≤ c % 2147483647 := Int.emod_nonneg _ (by decide)
      have hm2 : c % 2147483647 < 2147483647 := Int.emod_lt_of_pos _ (by decide)
      refine ⟨_, _, _, _, rfl, rfl, rfl, ⟨by decide, by decide, by omega⟩, ?_⟩
      walk_at "go"
      refine ⟨_, _, _, _, rfl, rfl, rfl, (by decide : (0 : Int) < 8), ?_⟩
      have hb : 0 ≤ at_ % 8 := Int.emod_nonneg _ (by decide)
      have hb2 : at_ % 8 < 8 := Int.emod_lt_of_pos _ (by decide)
      obtain ⟨p, hp, hp0, hp1⟩ := prime_at _ hb hb2
      refine ⟨_, _, _, rfl, rfl, hp, ?_⟩
      refine ⟨_, _, _, _, rfl, rfl, rfl, hp0, ?_⟩
      walk_at "go"
      refine .inl ⟨1, Nat.zero_le _, Nat.le_refl _, Nat.zero_lt_one, ?_, ?_⟩
      · intro o ho
        have e : o = _ := List.mem_singleton.mp ho
        subst e
        exact trivial
      · refine k g _ ⟨hg, Int.emod_nonneg _ (by omega), ?_⟩
        have := Int.emod_lt_of_pos ((c % 2147483647 + 104729 * at_ + 7) ^ (5 : Int).toNat) hp0
        omega
/-! ### take -/
abbrev s_take : Stmt := top 25
theorem sc_take : FnScope ["_law_bag_here", "_law_many", "_law_digit"] ["_law_bag_here", "_law_many"] (defScope s_take) := ⟨rfl, rfl, rfl, by decide +kernel, rfl, by decide +kernel, by decide +kernel⟩
theorem ok_take {f : Addr} {fd : FuncData} (F : Fun K "_law_take" "_law_take" s_take f fd) (B : Bln mg) (G : Gln w K mg)
    : FnOk P w K mg base CX0 1 f fd ["_law_bag_here", "_law_many"] (liftSp sp_take) := by
  refine F.ok sc_take (lift_len (by rintro us M Q h; obtain ⟨g, h, n, rfl, _⟩ := h; rfl)) (fun cdv A outer s H vs Q E hr h => ?_)
  refine def_ok ((ls_seq (ls_if (lt_test (le_op lr_gt (le_op (lr_ix (K := K)) (le_var (i := 0)) le_int) le_int)) (ls_seq (ls_asg (le_op lr_mod (le_op (lr_ix (K := K)) (le_var (i := 0)) le_int) (le_var (i := 1))) (lg_name (i := 2)))
      (ls_seq (ls_asg (le_op lr_divW (le_op (lr_ix (K := K)) (le_var (i := 0)) le_int) (le_var (i := 1))) (lg_sub (le_var (i := 0)) le_int lset_list))
      (ls_ret (le_var (i := 2))))) ls_next)
      (ls_seq (ls_asg (le_op lr_mod (le_op (lr_add (K := K)) (le_op lr_mulA (le_op (lr_ix (K := K)) (le_var (i := 0)) le_int) le_int) le_int) le_int) (lg_sub (le_var (i := 0)) le_int lset_list))
      (ls_ret (le_op lr_mod (le_op lr_mod (le_op lr_pow (le_op lr_divW (le_op (lr_ix (K := K)) (le_var (i := 0)) le_int) le_int) le_int) le_int) (le_var (i := 1)))))))
    ((pss_cons (ps_if (pt_cmpR op_gt (pe_ix (x_ix (K := K) rfl) (pv 0) pe_int (fun _ _ => rfl)) pe_int (by first | exact nomark _ | rfl)) (pss_cons (ps_set (i := 2) sc_take.nd rfl (Or.inl rfl) (pe_op op_mod (pe_ix (x_ix (K := K) rfl) (pv 0) pe_int (fun _ _ => rfl)) (pv 1)))
      (pss_cons (ps_asg (pe_op op_fdivW (pe_ix (x_ix (K := K) rfl) (pv 0) pe_int (fun _ _ => rfl)) (pv 1)) (pg_sub (pv 0) pe_int set_list (fun _ => rfl)))
      (pss_one (ps_ret (pv 2))))) pss_nil)
      (pss_cons (ps_asg (pe_op op_mod (pe_op (x_add (K := K) rfl) (pe_op op_mulAll (pe_ix (x_ix (K := K) rfl) (pv 0) pe_int (fun _ _ => rfl)) pe_int) pe_int) pe_int) (pg_sub (pv 0) pe_int set_list (fun _ => rfl)))
      (pss_one (ps_ret (pe_op op_mod (pe_op op_mod (pe_op op_pow (pe_op op_fdivW (pe_ix (x_ix (K := K) rfl) (pv 0) pe_int (fun _ _ => rfl)) pe_int) pe_int) pe_int) (pv 1)))))))
    h (fun us M Qu hd => ?_)
  obtain ⟨g, h, n, rfl, rfl, ⟨hg, hh, hh2⟩, hn, hn2, k⟩ := hd
  have hw : CDivW g n := wide_div hn (b := 32) (by omega) (by decide) (by decide)
  walk_at "go"
  refine witeD (fun h0 => ?_) (fun h0 => ?_)
  · walk_at "go"
    refine ⟨_, _, _, _, rfl, rfl, rfl, hn, ?_⟩
    walk_at "go"
    refine ⟨_, _, _, _, rfl, rfl, rfl, hw, ?_⟩
    walk_at "go"
    refine ⟨_, _, _, _, _, rfl, rfl, rfl, rfl, rfl, ?_⟩
    walk_at "go"
    refine fin_d (Nat.le_refl _) (fun o ho => ?_) (k _ _ _ (Int.emod_nonneg _ (by omega)) (Int.emod_lt_of_pos _ hn) ⟨Int.ediv_nonneg hg (by omega), hh, hh2⟩)
    have e : o = _ := List.mem_singleton.mp ho
    subst e
    exact trivial
  · walk_at "go"
    refine ⟨_, _, _, _, rfl, rfl, rfl, .inr ⟨by decide, by decide⟩, ?_⟩
    walk_at "go"
    refine ⟨_, _, _, _, rfl, rfl, rfl, (by decide : (0 : Int) < 2147483647), ?_⟩
    walk_at "go"
    refine ⟨_, _, _, _, _, rfl, rfl, rfl, rfl, rfl, ?_⟩
    have e0 : 0 ≤ (h * 48271 + 11) % 2147483647 := Int.emod_nonneg _ (by decide)
    have e1 : (h * 48271 + 11) % 2147483647 < 2147483647 := Int.emod_lt_of_pos _ (by decide)
    walk_at "go"
    refine ⟨_, _, _, _, rfl, rfl, rfl, wide_div (b := 32) (by decide) (by decide) (by decide) (by decide), ?_⟩
    walk_at "go"
    have e2 : 0 ≤ (h * 48271 + 11) % 2147483647 / 8 := Int.ediv_nonneg e0 (by decide)
    have e3 : (h * 48271 + 11) % 2147483647 / 8 ≤ 2147483647 := by omega
    refine ⟨_, _, _, _, rfl, rfl, rfl, ⟨by decide, by decide, by omega⟩, ?_⟩
    walk_at "go"
    refine ⟨_, _, _, _, rfl, rfl, rfl, (by decide : (0 : Int) < 2147483629), ?_⟩
    walk_at "go"
    refine ⟨_, _, _, _, rfl, rfl, rfl, hn, ?_⟩
    refine fin_d (Nat.le_refl _) (fun o ho => ?_) (k _ _ _ (Int.emod_nonneg _ (by omega)) (Int.emod_lt_of_pos _ hn) ⟨hg, e0, e1⟩)
    have e : o = _ := List.mem_singleton.mp ho
    subst e
    exact trivial
/-! ### word -/
abbrev s_word : Stmt := top 26
theorem sc_word : FnScope ["_law_bag_here", "_law_some"] ["_law_bag_here"] (defScope s_word) := ⟨rfl, rfl, rfl, by decide +kernel, rfl, by decide +kernel, by decide +kernel⟩
theorem ok_word {f : Addr} {fd : FuncData} (F : Fun K "_law_word" "_law_word" s_word f fd) (B : Bln mg) (G : Gln w K mg)
    {f_take : Addr} {fd_take : FuncData} (g_take : FnOk P w K mg base CX0 1 f_take fd_take ["_law_bag_here", "_law_many"] (liftSp sp_take)) (m_take : mg "_law_take" = some (.ref f_take)) (k_take : PySem.W.keepIn K (.ref f_take) = true) (b_take : Binds K fd_take ["_law_bag_here", "_law_many"] [])
    : FnOk P w K mg base CX0 2 f fd ["_law_bag_here"] (liftSp sp_word) := by
  refine F.ok sc_word (lift_len (by rintro us M Q h; obtain ⟨g, h, rfl, _⟩ := h; rfl)) (fun cdv A outer s H vs Q E hr h => ?_)
  refine def_ok ((ls_seq (ls_asg (le_tup (la_cons le_int (la_cons le_int (la_cons le_int (la_cons le_int (la_cons le_int (la_cons le_int (la_cons le_int (la_cons le_int la_nil))))))))) (lg_name (i := 1)))
      (ls_ret (le_if (lt_test (le_op (lr_eq (K := K)) (le_callC (is := [0]) (dv := []) (fun _ => .nil) (la_cons (le_var (i := 0)) (la_cons le_int la_nil))) le_int)) (le_op (lr_ix (K := K)) (le_var (i := 1)) (le_callC (is := [0]) (dv := []) (fun _ => .nil) (la_cons (le_var (i := 0)) (la_cons le_int la_nil)))) (le_callC (is := [0]) (dv := []) (fun _ => .nil) (la_cons (le_var (i := 0)) (la_cons le_int la_nil)))))))
    ((pss_cons (ps_set (i := 1) sc_word.nd rfl (Or.inl rfl) (pe_tup (pa_cons pe_int (pa_cons pe_int (pa_cons pe_int (pa_cons pe_int (pa_cons pe_int (pa_cons pe_int (pa_cons pe_int (pa_cons pe_int pa_nil))))))))))
      (pss_one (ps_ret (pe_ifExp (pt_cmpR (x_eq (K := K) rfl (hu64 hr)) (pe_call g_take (hr.mono (by omega)) (by rfl) m_take k_take b_take .nil pass0 (pa_cons (pv 0) (pa_cons pe_int pa_nil))) pe_int (by first | exact nomark _ | rfl)) (pe_ix (x_ix (K := K) rfl) (pv 1) (pe_call g_take (hr.mono (by omega)) (by rfl) m_take k_take b_take .nil pass0 (pa_cons (pv 0) (pa_cons pe_int pa_nil))) (fun _ _ => rfl)) (pe_call g_take (hr.mono (by omega)) (by rfl) m_take k_take b_take .nil pass0 (pa_cons (pv 0) (pa_cons pe_int pa_nil))))))))
    h (fun us M Qu hd => ?_)
  obtain ⟨g, h, rfl, rfl, hb, k⟩ := hd
  walk_at "go"
  refine ⟨g, h, 2, rfl, rfl, hb, by decide, by decide, fun r1 g1 h1 _ _ hb1 => ?_⟩
  walk_at "go"
  refine wite (fun _ => ?_) (fun _ => ?_)
  · walk_at "go"
    refine ⟨g1, h1, 8, rfl, rfl, hb1, by decide, by decide, fun i g2 h2 hi0 hi1 hb2 => ?_⟩
    obtain ⟨x, hx, hx0, hx1⟩ := word_at i hi0 hi1
    refine ⟨_, _, _, rfl, rfl, hx, ?_⟩
    refine fin_d (Nat.le_refl _) (fun o ho => ?_) (k _ _ _ hx0 hx1 hb2)
    have e : o = _ := List.mem_singleton.mp ho
    subst e
    exact trivial
  · walk_at "go"
    refine ⟨g1, h1, 65536, rfl, rfl, hb1, by decide, by decide, fun i g2 h2 hi0 hi1 hb2 => ?_⟩
    refine fin_d (Nat.le_refl _) (fun o ho => ?_) (k _ _ _ hi0 hi1 hb2)
    have e : o = _ := List.mem_singleton.mp ho
    subst e
    exact trivial

/-! ### is_fit -/
abbrev s_is_fit : Stmt := top 1
theorem sc_is_fit : FnScope ["pattern", "node", "op", "mark", "kids"] ["pattern", "node"] (defScope s_is_fit) := ⟨rfl, rfl, rfl, by decide +kernel, rfl, by decide +kernel, by decide +kernel⟩
theorem ok_is_fit {f : Addr} {fd : FuncData} (F : Fun K "is_fit" "is_fit" s_is_fit f fd) (B : Bln mg) (G : Gln w K mg)
    : FnOk P w K mg base CX0 1 f fd ["pattern", "node"] (liftSp sp_is_fit) := by
  refine F.ok sc_is_fit (lift_len (by rintro us M Q h; obtain ⟨p, n, rfl, _⟩ := h; rfl)) (fun cdv A outer s H vs Q E hr h => ?_)
  refine def_ok ((ls_seq (ls_asg (le_var (i := 1)) (lg_tup (K := K) (n := 3) (lgs_cons (lg_name (i := 2)) (lgs_cons (lg_name (i := 3)) (lgs_cons (lg_name (i := 4)) lgs_nil)))))
      (ls_seq (ls_if (lt_test (le_op (lr_ne (K := K)) (le_op (lr_ix (K := K)) (le_var (i := 0)) le_int) (le_var (i := 2)))) (ls_ret le_bl) ls_next)
      (ls_seq (ls_if (lt_or (lt_test (le_op (lr_ne (K := K)) (le_var (i := 2)) le_str)) (lt_test (le_op (lr_eq (K := K)) (le_cb (lc_len (K := K)) (la_cons (le_var (i := 0)) la_nil)) le_int))) (ls_ret le_bl) ls_next)
      (ls_ret (le_if (lt_test (le_op (lr_eq (K := K)) (le_op (lr_ix (K := K)) (le_var (i := 0)) le_int) le_str)) (le_op (lr_eq (K := K)) (le_var (i := 3)) (le_op (lr_ix (K := K)) (le_var (i := 0)) le_int)) (le_op lr_lt (le_var (i := 3)) (le_op (lr_ix (K := K)) (le_var (i := 0)) le_int))))))))
    ((pss_cons (ps_asg (pv 1) (pg_tup rfl (pgs_cons (pg_name (i := 2) sc_is_fit.nd rfl (Or.inl rfl)) (pgs_cons (pg_name (i := 3) sc_is_fit.nd rfl (Or.inl rfl)) (pgs_cons (pg_name (i := 4) sc_is_fit.nd rfl (Or.inl rfl)) pgs_nil)))))
      (pss_cons (ps_if (pt_cmpR (x_ne (K := K) rfl (hu64 hr)) (pe_ix (x_ix (K := K) rfl) (pv 0) pe_int (fun _ _ => rfl)) (pv 2) (by first | exact nomark _ | rfl)) (pss_one (ps_ret pe_bl)) pss_nil)
      (pss_cons (ps_if (PW.pt (pw_or (pt_cmpR (x_ne (K := K) rfl (hu64 hr)) (pv 2) pe_str (by first | exact nomark _ | rfl)) (pw_or1 (pt_cmpR (x_eq (K := K) rfl (hu64 hr)) (pe_callB (x_len (K := K) rfl) (by rfl) B.len_ bt_len (pa_cons (pv 0) pa_nil)) pe_int (by first | exact nomark _ | rfl))))) (pss_one (ps_ret pe_bl)) pss_nil)
      (pss_one (ps_ret (pe_ifExp (pt_cmpR (x_eq (K := K) rfl (hu64 hr)) (pe_ix (x_ix (K := K) rfl) (pv 0) pe_int (fun _ _ => rfl)) pe_str (by first | exact nomark _ | rfl)) (pe_cmpR (x_eq (K := K) rfl (hu64 hr)) (pv 3) (pe_ix (x_ix (K := K) rfl) (pv 0) pe_int (fun _ _ => rfl)) (by first | exact nomark _ | rfl)) (pe_cmpR op_lt (pv 3) (pe_ix (x_ix (K := K) rfl) (pv 0) pe_int (fun _ _ => rfl)) (by first | exact nomark _ | rfl)))))))))
    h (fun us M Qu hd => ?_)
  obtain ⟨p, n, rfl, rfl, hk, hp, hm, k⟩ := hd
  have fin : ∀ (b : Bool) (M' : List Ob), isFit p n = b → Fin' [] Qu (.d (.bool b)) M' := fun b M' e => fin_d0 (e ▸ k)
  obtain ⟨op, mark, kids⟩ := n
  cases p with
  | kind k' => exact absurd rfl (hk k')
  | num =>
    walk_at "go"
    refine wsne (fun e => fin _ _ ?_) (fun e => ?_)
    · simp [isFit]; exact fun z => e z.symm
    · subst e
      walk_at "go"
      exact fin _ _ (by simp [isFit])
  | var =>
    walk_at "go"
    refine wsne (fun e => fin _ _ ?_) (fun e => ?_)
    · simp [isFit]; exact fun z => e z.symm
    · subst e
      walk_at "go"
      exact fin _ _ (by simp [isFit])
  | op o ps =>
    walk_at "go"
    refine wsne (fun e => fin _ _ ?_) (fun e => ?_)
    · simp [isFit]; exact fun z => e z.symm
    · subst e
      walk_at "go"
      refine wsne (fun _ => ?_) (fun e => absurd e hp.1)
      exact fin _ _ (by simp [isFit])
  | is_ w =>
    walk_at "go"
    refine wsne (fun e => fin _ _ ?_) (fun e => ?_)
    · simp [isFit]; exact fun z => absurd z.symm e
    · subst e
      obtain ⟨x, hx⟩ := hm rfl
      have hx' : mark = .int x := hx
      subst hx'
      walk_at "go"
      exact fin _ _ (by simp [isFit, markI, eqv_i]; exact decide_eq_decide.mpr Iff.rfl)
  | lss w =>
    walk_at "go"
    refine wsne (fun e => fin _ _ ?_) (fun e => ?_)
    · simp [isFit]; exact fun z => absurd z.symm e
    · subst e
      obtain ⟨x, hx⟩ := hm rfl
      have hx' : mark = .int x := hx
      subst hx'
      walk_at "go"
      exact fin _ _ (by simp [isFit, markI]; exact decide_eq_decide.mpr Iff.rfl)
/-! ### matched -/
abbrev s_matched : Stmt := top 2
theorem sc_matched : FnScope ["pattern", "web", "at", "op", "mark", "kids", "needs", "marks", "kid", "inner", "found"] ["pattern", "web", "at"] (defScope s_matched) := ⟨rfl, rfl, rfl, by decide +kernel, rfl, by decide +kernel, by decide +kernel⟩
theorem ok_matched {f : Addr} {fd : FuncData} (F : Fun K "matched" "matched" s_matched f fd) (B : Bln mg) (G : Gln w K mg) (m_matched : mg "matched" = some (.ref f)) (k_matched : PySem.W.keepIn K (.ref f) = true) (b_matched : Binds K fd ["pattern", "web", "at"] [])
    {f_is_fit : Addr} {fd_is_fit : FuncData} (g_is_fit : FnOk P w K mg base CX0 1 f_is_fit fd_is_fit ["pattern", "node"] (liftSp sp_is_fit)) (m_is_fit : mg "is_fit" = some (.ref f_is_fit)) (k_is_fit : PySem.W.keepIn K (.ref f_is_fit) = true) (b_is_fit : Binds K fd_is_fit ["pattern", "node"] [])
    : ∀ lv : Nat, FnOk P w K mg base CX0 (lv + 1) f fd ["pattern", "web", "at"] (liftSp (sp_matched lv)) := by
  intro lv
  induction lv with
  | zero =>
    refine ⟨lift_len (by rintro us M Q h; obtain ⟨web, p, a, rfl, _⟩ := h; rfl), fun A outer s H args us vs Q E _ _ _ _ h => ?_⟩
    obtain ⟨_, M, us, Qu, _, _, h, _⟩ := h
    obtain ⟨web, p, a, _, _, _, _, _, hd, _⟩ := h; exact absurd hd (by cases p <;> simp [Pat.depth])
  | succ lv g_matched =>
  refine F.ok sc_matched (lift_len (by rintro us M Q h; obtain ⟨web, p, a, rfl, _⟩ := h; rfl)) (fun cdv A outer s H vs Q E hr h => ?_)
  refine def_ok ((ls_seq (ls_if (lt_B (le_isiC (K := K) .str (le_var (i := 0)))) (ls_ret (le_tup (la_cons (le_lst (la_cons (le_tup (la_cons (le_var (i := 2)) (la_cons (le_var (i := 0)) la_nil))) la_nil)) (la_cons (le_lst la_nil) la_nil)))) ls_next)
      (ls_seq (ls_asg (le_op (lr_ix (K := K)) (le_var (i := 1)) (le_var (i := 2))) (lg_tup (K := K) (n := 3) (lgs_cons (lg_name (i := 3)) (lgs_cons (lg_name (i := 4)) (lgs_cons (lg_name (i := 5)) lgs_nil)))))
      (ls_seq (ls_if (lt_not (lt_B (le_callP (dv := []) (fun _ => .nil) (la_cons (le_var (i := 0)) (la_cons (le_op (lr_ix (K := K)) (le_var (i := 1)) (le_var (i := 2))) la_nil))))) (ls_ret le_non) ls_next)
      (ls_seq (ls_asg (le_lstC la_nil) (lg_name (i := 6)))
      (ls_cut (ls_asg (le_if (lt_test (le_op lr_isN (le_var (i := 4)) le_non)) (le_lstC la_nil) (le_lstC (la_cons (le_var (i := 4)) la_nil))) (lg_name (i := 7)))
      (ls_seq (ls_for (li_zip (K := K) (la_cons (le_var (i := 5)) (la_cons (le_sl (K := K) (le_var (i := 0)) (lo_some le_int) lo_none) la_nil))) (lg_tup (K := K) (n := 2) (lgs_cons (lg_name (i := 8)) (lgs_cons (lg_name (i := 9)) lgs_nil))) (ls_seq (ls_asg (le_callP (dv := []) (fun _ => .nil) (la_cons (le_var (i := 9)) (la_cons (le_var (i := 1)) (la_cons (le_var (i := 8)) la_nil)))) (lg_name (i := 10)))
      (ls_seq (ls_if (lt_test (le_op lr_isN (le_var (i := 10)) le_non)) (ls_ret le_non) ls_next)
      (ls_seq (ls_aug (i := 6) (le_op (lr_ix (K := K)) (le_var (i := 10)) le_int) lr_ext)
      (ls_aug (i := 7) (le_op (lr_ix (K := K)) (le_var (i := 10)) le_int) lr_ext)))))
      (ls_frz (i := 7) (ls_frz (i := 6) (ls_ret (le_tup (la_cons (le_var (i := 6)) (la_cons (le_var (i := 7)) la_nil)))))))))))))
    ((pss_cons (ps_if (pt_val (pe_callB (x_isi (K := K) rfl) (by rfl) B.isinstance_ bt_isinstance (pa_cons (pv 0) (pa_cons (pe_bltn (by rfl) B.str_ bt_str (v := .ty "str") rfl) pa_nil)))) (pss_one (ps_ret (pe_tup (pa_cons (pe_lst (pa_cons (pe_tup (pa_cons (pv 2) (pa_cons (pv 0) pa_nil))) pa_nil)) (pa_cons (pe_lst pa_nil) pa_nil))))) pss_nil)
      (pss_cons (ps_asg (pe_ix (x_ix (K := K) rfl) (pv 1) (pv 2) (fun _ _ => rfl)) (pg_tup rfl (pgs_cons (pg_name (i := 3) sc_matched.nd rfl (Or.inl rfl)) (pgs_cons (pg_name (i := 4) sc_matched.nd rfl (Or.inl rfl)) (pgs_cons (pg_name (i := 5) sc_matched.nd rfl (Or.inl rfl)) pgs_nil)))))
      (pss_cons (ps_if (pt_not (pt_val (pe_call g_is_fit (hr.mono (by omega)) (by rfl) m_is_fit k_is_fit b_is_fit .nil pass0 (pa_cons (pv 0) (pa_cons (pe_ix (x_ix (K := K) rfl) (pv 1) (pv 2) (fun _ _ => rfl)) pa_nil))))) (pss_one (ps_ret pe_non)) pss_nil)
      (pss_cons (ps_set (i := 6) sc_matched.nd rfl (Or.inl rfl) (pe_lst pa_nil))
      (pss_cons (ps_set (i := 7) sc_matched.nd rfl (Or.inl rfl) (pe_ifExp (pt_cmpR op_isN (pv 4) pe_non (by first | exact nomark _ | rfl)) (pe_lst pa_nil) (pe_lst (pa_cons (pv 4) pa_nil))))
      (pss_cons (ps_for PassesOwn.never rfl (RZ.pi_zipA (by rfl) B.zip_ (pa_cons (pv 5) (pa_cons (pe_slice (x_sl (K := K) rfl) (pv 0) (po_some pe_int) po_none) pa_nil))) (pg_tup rfl (pgs_cons (pg_name (i := 8) sc_matched.nd rfl (Or.inl rfl)) (pgs_cons (pg_name (i := 9) sc_matched.nd rfl (Or.inl rfl)) pgs_nil))) (pss_cons (ps_set (i := 10) sc_matched.nd rfl (Or.inl rfl) (pe_call g_matched (hr.mono (by omega)) (by rfl) m_matched k_matched b_matched .nil pass0 (pa_cons (pv 9) (pa_cons (pv 1) (pa_cons (pv 8) pa_nil)))))
      (pss_cons (ps_if (pt_cmpR op_isN (pv 10) pe_non (by first | exact nomark _ | rfl)) (pss_one (ps_ret pe_non)) pss_nil)
      (pss_cons (ps_aug (i := 6) sc_matched.nd rfl (Or.inl rfl) (pe_ix (x_ix (K := K) rfl) (pv 10) pe_int (fun _ _ => rfl)) iop_ext)
      (pss_one (ps_aug (i := 7) sc_matched.nd rfl (Or.inl rfl) (pe_ix (x_ix (K := K) rfl) (pv 10) pe_int (fun _ _ => rfl)) iop_ext))))))
      (pss_one (ps_ret (pe_tup (pa_cons (pv 6) (pa_cons (pv 7) pa_nil))))))))))))
    h (fun us M Qu hd => ?_)
  obtain ⟨web, p, a, rfl, rfl, hw, ha, hp, hdp, hsz, k⟩ := hd
  cases hk : isKind p with
  | true =>
    cases p with
    | kind k' =>
      walk_at "go"
      exact fin_d0 k
    | _ => cases hk
  | false =>
    obtain ⟨s0, tl, he, hz⟩ := enc_tup p hk
    obtain ⟨n, hn, hnm, hat⟩ := web_at ha
    have hno := hw n hnm
    have hfit := fit_node web p a n hk hn hno
    rw [he]
    walk_at "go"
    refine ⟨_, _, _, rfl, rfl, ix_l hat, ?_⟩
    walk_at "go"
    refine ⟨_, _, _, rfl, rfl, ix_l hat, ?_⟩
    walk_at "go"
    refine ⟨p, n, by rw [he]; rfl, rfl, (fun k' e => by subst e; cases hk), hp, (fun e => (hno.num e).1), ?_⟩
    cases hf : isFit p n with
    | false =>
      walk_at "go"
      rw [hfit, hf] at k
      exact fin_d0 k
    | true =>
      walk_at "go"
      rw [hf, if_pos rfl] at hfit
      refine ⟨fun ρ M => ρ = [some (.d (.tuple (.str s0 :: tl))), some (.d (encWeb web)), some (.d (.int a)), some (.d (.str n.op)), some (.d n.mark), some (.d (.tuple (encKids n.kids))), some (.p 0), some (.p 1), none, none, none] ∧ M = [.lst [], .lst (marks0 n)], ?_, ?_⟩
      · rcases hno.mark with h | ⟨x, h⟩ | ⟨x, h⟩
        · rw [show marks0 n = [] by unfold marks0; rw [h]]
          rw [h]
          walk_at "go"
          first | exact rfl | exact ⟨rfl, rfl⟩
        · rw [show marks0 n = [.int x] by unfold marks0; rw [h]]
          rw [h]
          walk_at "go"
          first | exact rfl | exact ⟨rfl, rfl⟩
        · rw [show marks0 n = [.str x] by unfold marks0; rw [h]]
          rw [h]
          walk_at "go"
          first | exact rfl | exact ⟨rfl, rfl⟩
      · rintro _ _ ⟨rfl, rfl⟩
        walk_at "go"
        rw [cut1, show pairs (encKids n.kids) tl = pairs (encKids n.kids) (Pat.encs (subs p)) by unfold pairs; rw [hz n.kids (leaf_kids hno hf)]]
        have hsub : Pat.oks (subs p) ∧ Pat.depths (subs p) ≤ lv ∧ Pat.sizes (subs p) ≤ 100000 := by
          cases p with
          | op o ps => exact ⟨hp.2, by simp only [Pat.depth] at hdp; simp only [subs]; omega, by simp only [Pat.size] at hsz; simp only [subs]; omega⟩
          | _ => exact ⟨trivial, Nat.zero_le _, Nat.zero_le _⟩
        refine wLoop_rec (fun us ρ M => ∃ (ps : List Pat) (ks : List Nat) (ns0 : List (Nat × Str)) (ms0 : List PyData) (x8 x9 x10 : Option U), us = pairs (encKids ks) (Pat.encs ps) ∧
          ρ = [some (.d (.tuple (.str s0 :: tl))), some (.d (encWeb web)), some (.d (.int a)), some (.d (.str n.op)), some (.d n.mark), some (.d (.tuple (encKids n.kids))), some (.p 0), some (.p 1), x8, x9, x10] ∧
          M = [.lst (ns0.map encNeed), .lst ms0] ∧ (∀ k ∈ ks, k < web.length) ∧ Pat.oks ps ∧ Pat.depths ps ≤ lv ∧ ns0.length + Pat.sizes ps ≤ 100000 ∧ ms0.length + Pat.sizes ps ≤ 100001 ∧
          fit web p a = (match fitAll web ps ks with
            | none => none
            | some (ns, ms) => some (ns0 ++ ns, ms0 ++ ms))) ?_ ?_ _ _ _ ⟨subs p, n.kids, [], marks0 n, none, none, none, rfl, rfl, rfl, hno.kids, hsub.1, hsub.2.1, by have := hsub.2.2; simp; omega, by have := hsub.2.2; have := marks0_len n; omega, by rw [hfit]; simp⟩
        · rintro ρ M ⟨ps, ks, ns0, ms0, x8, x9, x10, hus, rfl, rfl, hks, hok, hdep, hl1, hl2, hft⟩
          have hfa : fitAll web ps ks = some ([], []) := by
            cases ps with
            | nil => simp [fitAll]
            | cons p1 ps =>
              cases ks with
              | nil => simp [fitAll]
              | cons k1 ks => simp [pairs, encKids, Pat.encs] at hus
          rw [hfa] at hft
          simp only [List.append_nil] at hft
          refine ⟨trivial, ?_⟩
          walk_at "go"
          rw [hft] at k
          exact fin_d0 k
        · rintro u us ih ρ M ⟨ps, ks, ns0, ms0, x8, x9, x10, hus, rfl, rfl, hks, hok, hdep, hl1, hl2, hft⟩
          obtain ⟨p1, ps, k1, ks, rfl, rfl⟩ : ∃ p1 ps' k1 ks', ps = p1 :: ps' ∧ ks = k1 :: ks' := by
            cases ps with
            | nil => simp [pairs, Pat.encs] at hus
            | cons p1 ps =>
              cases ks with
              | nil => simp [pairs, encKids] at hus
              | cons k1 ks => exact ⟨_, _, _, _, rfl, rfl⟩
          have hus' : u = .d (.tuple [.int (k1 : Int), p1.enc]) ∧ us = pairs (encKids ks) (Pat.encs ps) := by
            simpa [pairs, encKids, Pat.encs] using hus
          obtain ⟨rfl, rfl⟩ := hus'
          have hsz1 : Pat.sizes (p1 :: ps) = p1.size + Pat.sizes ps := by simp [Pat.sizes]
          have hdp1 : Pat.depths (p1 :: ps) = max p1.depth (Pat.depths ps) := by simp [Pat.depths]
          rw [hsz1] at hl1 hl2
          rw [hdp1] at hdep
          refine ⟨trivial, ?_⟩
          walk_at "go"
          refine ⟨web, p1, k1, rfl, rfl, hw, hks k1 List.mem_cons_self, hok.1, Nat.le_trans (Nat.le_max_left _ _) hdep, by omega, ?_⟩
          cases hf1 : fit web p1 k1 with
          | none =>
            walk_at "go"
            have e : fit web p a = none := by
              rw [hft]; unfold fitAll; rw [hf1]
            rw [e] at k
            exact fin_d0 k
          | some r =>
            obtain ⟨n1, m1⟩ := r
            obtain ⟨z1, z2⟩ := fit_size web p1 k1 n1 m1 hf1
            have hsl : 1000000 ≤ sizeLine := by decide
            walk_at "go"
            refine ⟨by simp only [List.length_map]; omega, ?_⟩
            walk_at "go"
            refine ⟨by omega, ?_⟩
            refine ih _ _ ⟨ps, ks, ns0 ++ n1, ms0 ++ m1, _, _, _, rfl, rfl, by rw [List.map_append]; rfl, fun k hk => hks k (List.mem_cons_of_mem _ hk), hok.2, Nat.le_trans (Nat.le_max_right _ _) hdep, by rw [List.length_append]; omega, by rw [List.length_append]; omega, ?_⟩
            rw [hft]
            conv => lhs; unfold fitAll
            rw [hf1]
            cases fitAll web ps ks with
            | none => rfl
            | some r => obtain ⟨n2, m2⟩ := r; simp

/-! ### fits -/
abbrev s_fits : Stmt := top 3
theorem sc_fits : FnScope ["machine", "web", "at", "goal", "rules", "found", "name", "kind", "pattern", "cost", "both", "needs", "marks"] ["machine", "web", "at"] (defScope s_fits) := ⟨rfl, rfl, rfl, by decide +kernel, rfl, by decide +kernel, by decide +kernel⟩
theorem ok_fits {f : Addr} {fd : FuncData} (F : Fun K "fits" "fits" s_fits f fd) (B : Bln mg) (G : Gln w K mg)
    {f_matched : Addr} {fd_matched : FuncData} (g_matched : FnOk P w K mg base CX0 9 f_matched fd_matched ["pattern", "web", "at"] (liftSp (sp_matched 8))) (m_matched : mg "matched" = some (.ref f_matched)) (k_matched : PySem.W.keepIn K (.ref f_matched) = true) (b_matched : Binds K fd_matched ["pattern", "web", "at"] [])
    : FnOk P w K mg base CX0 10 f fd ["machine", "web", "at"] (liftSp sp_fits) := by
  refine F.ok sc_fits (lift_len (by rintro us M Q h; unfold sp_fits at h; obtain ⟨g, rs, web, a, rfl, _⟩ := h; rfl)) (fun cdv A outer s H vs Q E hr h => ?_)
  refine def_ok ((ls_seq (ls_asg (le_var (i := 0)) (lg_tup (K := K) (n := 2) (lgs_cons (lg_name (i := 3)) (lgs_cons (lg_name (i := 4)) lgs_nil))))
      (ls_seq (ls_asg (le_lstC la_nil) (lg_name (i := 5)))
      (ls_seq (ls_for (li_list (K := K) (le_var (i := 4))) (lg_tup (K := K) (n := 4) (lgs_cons (lg_name (i := 6)) (lgs_cons (lg_name (i := 7)) (lgs_cons (lg_name (i := 8)) (lgs_cons (lg_name (i := 9)) lgs_nil))))) (ls_seq (ls_asg (le_callP (dv := []) (fun _ => .nil) (la_cons (le_var (i := 8)) (la_cons (le_var (i := 1)) (la_cons (le_var (i := 2)) la_nil)))) (lg_name (i := 10)))
      (ls_if (lt_test (le_op lr_notN (le_var (i := 10)) le_non)) (ls_seq (ls_asg (le_var (i := 10)) (lg_tup (K := K) (n := 2) (lgs_cons (lg_name (i := 11)) (lgs_cons (lg_name (i := 12)) lgs_nil))))
      (ls_drop (le_bm (K := K) (ty_list (K := K)) lm_append (le_var (i := 5)) (la_cons (le_tup (la_cons (le_var (i := 6)) (la_cons (le_cb (lc_tupOf (K := K)) (la_cons (le_var (i := 11)) la_nil)) (la_cons (le_cb (lc_tupOf (K := K)) (la_cons (le_var (i := 12)) la_nil)) la_nil)))) la_nil)))) ls_next)))
      (ls_frz (i := 5) (ls_ret (le_var (i := 5))))))))
    ((pss_cons (ps_asg (pv 0) (pg_tup rfl (pgs_cons (pg_name (i := 3) sc_fits.nd rfl (Or.inl rfl)) (pgs_cons (pg_name (i := 4) sc_fits.nd rfl (Or.inl rfl)) pgs_nil))))
      (pss_cons (ps_set (i := 5) sc_fits.nd rfl (Or.inl rfl) (pe_lst pa_nil))
      (pss_cons (ps_for PassesOwn.never rfl (pi_list (pv 4)) (pg_tup rfl (pgs_cons (pg_name (i := 6) sc_fits.nd rfl (Or.inl rfl)) (pgs_cons (pg_name (i := 7) sc_fits.nd rfl (Or.inl rfl)) (pgs_cons (pg_name (i := 8) sc_fits.nd rfl (Or.inl rfl)) (pgs_cons (pg_name (i := 9) sc_fits.nd rfl (Or.inl rfl)) pgs_nil))))) (pss_cons (ps_set (i := 10) sc_fits.nd rfl (Or.inl rfl) (pe_call g_matched (hr.mono (by omega)) (by rfl) m_matched k_matched b_matched .nil pass0 (pa_cons (pv 8) (pa_cons (pv 1) (pa_cons (pv 2) pa_nil)))))
      (pss_one (ps_if (pt_cmpR op_notN (pv 10) pe_non (by first | exact nomark _ | rfl)) (pss_cons (ps_asg (pv 10) (pg_tup rfl (pgs_cons (pg_name (i := 11) sc_fits.nd rfl (Or.inl rfl)) (pgs_cons (pg_name (i := 12) sc_fits.nd rfl (Or.inl rfl)) pgs_nil))))
      (pss_one (ps_expr (pe_bm PySem.F.plainAttrs_list PySem.F.slot_list_append PySem.F.type_list_append mt_append (pv 5) (pa_cons (pe_tup (pa_cons (pv 6) (pa_cons (pe_callTy (x_tupOf (K := K) rfl) (by rfl) B.tuple_ bt_tuple (pa_cons (pv 11) pa_nil)) (pa_cons (pe_callTy (x_tupOf (K := K) rfl) (by rfl) B.tuple_ bt_tuple (pa_cons (pv 12) pa_nil)) pa_nil)))) pa_nil))))) pss_nil))))
      (pss_one (ps_ret (pv 5)))))))
    h (fun us M Qu hd => ?_)
  unfold sp_fits at hd
  obtain ⟨g, rs, web, a, rfl, rfl, hw, ⟨hl, hr'⟩, ha, k⟩ := hd
  walk_at "go"
  refine wLoop_rec (fun us ρ M => ∃ (rs1 rs2 : List Rule) (x5 x6 x7 x8 x9 x10 x11 : Option U), us = (rs2.map Rule.enc).map U.d ∧ rs = rs1 ++ rs2 ∧
    ρ = [some (.d (encMachine g rs)), some (.d (encWeb web)), some (.d (.int a)), some (.d (.str g)), some (.d (.list (rs.map Rule.enc))), some (.p 0), x5, x6, x7, x8, x9, x10, x11] ∧
    M = [.lst (fitsD web a rs1)] ∧ (fitsD web a rs1).length ≤ rs1.length) ?_ ?_ _ _ _ ⟨[], rs, none, none, none, none, none, none, none, rfl, rfl, rfl, rfl, Nat.le_refl _⟩
  · rintro ρ M ⟨rs1, rs2, x5, x6, x7, x8, x9, x10, x11, hus, hrs, rfl, rfl, hl1⟩
    have e2 : rs2 = [] := by cases rs2 with
      | nil => rfl
      | cons r rs2 => simp at hus
    subst e2
    simp only [List.append_nil] at hrs
    subst hrs
    refine ⟨trivial, ?_⟩
    walk_at "go"
    exact fin_d0 k
  · rintro u us ih ρ M ⟨rs1, rs2, x5, x6, x7, x8, x9, x10, x11, hus, hrs, rfl, rfl, hl1⟩
    cases rs2 with
    | nil => simp at hus
    | cons r rs2 =>
      have hus' : u = .d r.enc ∧ us = (rs2.map Rule.enc).map U.d := by simpa using hus
      obtain ⟨rfl, rfl⟩ := hus'
      obtain ⟨h1, h2, h3⟩ := hr' r (by rw [hrs]; simp)
      have hlr : rs1.length + 1 ≤ rs.length := by rw [hrs]; simp
      have e1 : fitsD web a (rs1 ++ [r]) = fitsD web a rs1 ++ fit1 web a r := by simp [fitsD]
      have hrs' : rs = (rs1 ++ [r]) ++ rs2 := by rw [hrs]; simp
      refine ⟨trivial, ?_⟩
      walk_at "go"
      refine ⟨web, r.pat, a, rfl, rfl, hw, ha, h1, h2, h3, ?_⟩
      have hsl : 1000000 ≤ sizeLine := by decide
      cases hf : fit web r.pat a with
      | none =>
        have e3 : fit1 web a r = [] := by unfold fit1; rw [hf]
        walk_at "go"
        refine ih _ _ ⟨rs1 ++ [r], rs2, _, _, _, _, _, _, _, rfl, hrs', rfl, ?_, ?_⟩
        · rw [e1, e3, List.append_nil]
        · rw [e1, e3, List.append_nil, List.length_append]; omega
      | some q =>
        obtain ⟨ns, ms⟩ := q
        have e3 : fit1 web a r = [.tuple [.str r.name, .tuple (ns.map encNeed), .tuple ms]] := by unfold fit1; rw [hf]
        walk_at "go"
        refine ⟨.inl ⟨_, rfl⟩, ?_⟩
        walk_at "go"
        refine ⟨by omega, ?_⟩
        refine ih _ _ ⟨rs1 ++ [r], rs2, _, _, _, _, _, _, _, rfl, hrs', rfl, ?_, ?_⟩
        · rw [e1, e3]; rfl
        · rw [e1, e3, List.length_append, List.length_append]; simp; omega

/-! ### name -/
abbrev s_name : Stmt := top 27
theorem sc_name : FnScope ["_law_bag_here", "_law_letters", "_law_turn"] ["_law_bag_here"] (defScope s_name) := ⟨rfl, rfl, rfl, by decide +kernel, rfl, by decide +kernel, by decide +kernel⟩
theorem ok_name {f : Addr} {fd : FuncData} (F : Fun K "_law_name" "_law_name" s_name f fd) (B : Bln mg) (G : Gln w K mg)
    {f_take : Addr} {fd_take : FuncData} (g_take : FnOk P w K mg base CX0 1 f_take fd_take ["_law_bag_here", "_law_many"] (liftSp sp_take)) (m_take : mg "_law_take" = some (.ref f_take)) (k_take : PySem.W.keepIn K (.ref f_take) = true) (b_take : Binds K fd_take ["_law_bag_here", "_law_many"] [])
    : FnOk P w K mg base CX0 2 f fd ["_law_bag_here"] (liftSp sp_name) := by
  refine F.ok sc_name (lift_len (by rintro us M Q h; obtain ⟨g, h, rfl, _⟩ := h; rfl)) (fun cdv A outer s H vs Q E hr h => ?_)
  refine def_ok ((ls_seq (ls_if (lt_test (le_op (lr_eq (K := K)) (le_callC (is := [0]) (dv := []) (fun _ => .nil) (la_cons (le_var (i := 0)) (la_cons le_int la_nil))) le_int)) (ls_ret (le_op (lr_ix (K := K)) (le_tup (la_cons le_str (la_cons le_str (la_cons le_str (la_cons le_str (la_cons le_str la_nil)))))) (le_callC (is := [0]) (dv := []) (fun _ => .nil) (la_cons (le_var (i := 0)) (la_cons le_int la_nil))))) ls_next)
      (ls_seq (ls_asg le_str (lg_name (i := 1)))
      (ls_ret (le_bm (K := K) (ty_str (K := K)) (lm_join (K := K)) le_str (la_cons (le_lc (li_rng1 (la_cons (le_op (lr_add (K := K)) le_int (le_callC (is := [0]) (dv := []) (fun _ => .nil) (la_cons (le_var (i := 0)) (la_cons le_int la_nil)))) la_nil)) (lgv_name (i := 2) (by decide)) lt_yes (le_op (lr_ix (K := K)) (le_var (i := 1)) (le_callC (is := [0]) (dv := []) (fun _ => .nil) (la_cons (le_var (i := 0)) (la_cons le_int la_nil))))) la_nil))))))
    ((pss_cons (ps_if (pt_cmpR (x_eq (K := K) rfl (hu64 hr)) (pe_call g_take (hr.mono (by omega)) (by rfl) m_take k_take b_take .nil pass0 (pa_cons (pv 0) (pa_cons pe_int pa_nil))) pe_int (by first | exact nomark _ | rfl)) (pss_one (ps_ret (pe_ix (x_ix (K := K) rfl) (pe_tup (pa_cons pe_str (pa_cons pe_str (pa_cons pe_str (pa_cons pe_str (pa_cons pe_str pa_nil)))))) (pe_call g_take (hr.mono (by omega)) (by rfl) m_take k_take b_take .nil pass0 (pa_cons (pv 0) (pa_cons pe_int pa_nil))) (fun _ _ => rfl)))) pss_nil)
      (pss_cons (ps_set (i := 1) sc_name.nd rfl (Or.inr rfl) pe_str)
      (pss_one (ps_ret (pe_bm PySem.F.plainAttrs_str PySem.F.slot_str_join PySem.F.type_str_join (x_join (K := K) rfl) pe_str (pa_cons (pe_lc (own := [("_law_turn", 2)]) rfl sc_name.nd (pi_range1 (by rfl) B.range_ (pa_cons (pe_op (x_add (K := K) rfl) pe_int (pe_call g_take (hr.mono (by omega)) (by rfl) m_take k_take b_take .nil pass0 (pa_cons (pv 0) (pa_cons pe_int pa_nil)))) pa_nil)) (blkOk_by (N := ["_law_bag_here", "_law_letters", "_law_turn"]) (sc := defScope s_name) (by decide +kernel)) (fun _ _ _ _ _ => (pg_name (i := 2) sc_name.nd rfl (Or.inl rfl))) (fun _ _ _ _ _ => pts_nil) (fun _ _ _ _ _ => (pe_ix (x_ix (K := K) rfl) (pv 1) (pe_call g_take (hr.mono (by omega)) (by rfl) m_take k_take b_take .nil pass0 (pa_cons (pv 0) (pa_cons pe_int pa_nil))) (fun _ _ => rfl)))) pa_nil)))))))
    h (fun us M Qu hd => ?_)
  obtain ⟨g, h, rfl, rfl, hb, k⟩ := hd
  walk_at "go"
  refine ⟨g, h, 2, rfl, rfl, hb, by decide, by decide, fun r1 g1 h1 _ _ hb1 => ?_⟩
  walk_at "go"
  refine wite (fun _ => ?_) (fun _ => ?_)
  · walk_at "go"
    refine ⟨g1, h1, 5, rfl, rfl, hb1, by decide, by decide, fun i g2 h2 hi0 hi1 hb2 => ?_⟩
    obtain ⟨x, hx, hx0⟩ := names_at i hi0 hi1
    refine ⟨_, _, _, rfl, rfl, hx, ?_⟩
    exact fin_bag (k _ _ _ hx0 hb2)
  · walk_at "go"
    refine ⟨⟨_, rfl⟩, ?_⟩
    walk_at "go"
    refine ⟨g1, h1, 8, rfl, rfl, hb1, by decide, by decide, fun i g2 h2 hi0 hi1 hb2 => ?_⟩
    walk_at "go"
    refine ⟨by omega, ?_⟩
    have hsl : 1000000 ≤ sizeLine := by decide
    refine wLcGo_rec (fun us acc M => ∃ (cs : List Nat) (g h : Int), acc = (cs.map (fun c => PyData.str ⟨#[c]⟩)).map U.d ∧ cs.length + us.length ≤ 8 ∧ 1 ≤ cs.length + us.length ∧ (∀ c ∈ cs, 97 ≤ c ∧ c ≤ 122) ∧ M = [bagO g h] ∧ bagOk g h) ?_ ?_ _ _ _
      ⟨[], g2, h2, rfl, by simp [intsU]; omega, by simp [intsU]; omega, fun c hc => (nomatch hc), rfl, hb2⟩
    · rintro acc M ⟨cs, g3, h3, rfl, hl8, hl1, hcs, rfl, hb3⟩
      refine ⟨trivial, _, dats_map _, ?_⟩
      refine ⟨_, _, _, _, rfl, rfl, rfl, texts_map cs, ?_, ?_⟩
      · have hl8' : cs.length ≤ 8 := by simpa using hl8
        rw [chars_sum, List.length_map, Nat.mul_comm]
        rw [show Str.length (Str.ofString "") = 0 by decide]
        omega
      · refine fin_bag (k _ _ _ ⟨?_, ?_, ?_⟩ hb3) <;> rw [join_chars]
        · simpa using hl1
        · simpa using hl8
        · exact hcs
    · rintro u us ih acc M ⟨cs, g3, h3, rfl, hl8, hl1, hcs, rfl, hb3⟩
      refine ⟨trivial, ?_⟩
      walk_at "go"
      refine ⟨g3, h3, 26, rfl, rfl, hb3, by decide, by decide, fun j g4 h4 hj0 hj1 hb4 => ?_⟩
      obtain ⟨c, hc, hc0, hc1⟩ := letter_at j hj0 hj1
      refine ⟨_, _, _, rfl, rfl, ⟨c, by decide, hc, rfl⟩, ?_⟩
      simp only [List.length_cons] at hl8 hl1
      refine ⟨by simp only [List.length_map]; omega, ?_⟩
      refine ih _ _ ⟨cs ++ [c], g4, h4, by rw [List.map_append, List.map_append]; rfl, by rw [List.length_append, List.length_singleton]; omega, by rw [List.length_append, List.length_singleton]; omega, ?_, rfl, hb4⟩
      intro x hx
      rcases List.mem_append.mp hx with hx | hx
      · exact hcs x hx
      · rw [List.mem_singleton.mp hx]; exact ⟨hc0, hc1⟩

/-! ### part -/
abbrev s_part : Stmt := top 28
theorem sc_part : FnScope ["_law_bag_here", "_law_found", "_law_loose", "_law_once", "_law_op", "_law_many", "_law_some", "_law_kids", "_law_turn", "_law_kid", "_law_mark"] ["_law_bag_here", "_law_found", "_law_loose", "_law_once"] (defScope s_part) := ⟨rfl, rfl, rfl, by decide +kernel, rfl, by decide +kernel, by decide +kernel⟩
theorem ok_part {f : Addr} {fd : FuncData} (F : Fun K "_law_part" "_law_part" s_part f fd) (B : Bln mg) (G : Gln w K mg)
    {f_take : Addr} {fd_take : FuncData} (g_take : FnOk P w K mg base CX0 1 f_take fd_take ["_law_bag_here", "_law_many"] (liftSp sp_take)) (m_take : mg "_law_take" = some (.ref f_take)) (k_take : PySem.W.keepIn K (.ref f_take) = true) (b_take : Binds K fd_take ["_law_bag_here", "_law_many"] [])
    {f_word : Addr} {fd_word : FuncData} (g_word : FnOk P w K mg base CX0 2 f_word fd_word ["_law_bag_here"] (liftSp sp_word)) (m_word : mg "_law_word" = some (.ref f_word)) (k_word : PySem.W.keepIn K (.ref f_word) = true) (b_word : Binds K fd_word ["_law_bag_here"] [])
    {f_name : Addr} {fd_name : FuncData} (g_name : FnOk P w K mg base CX0 2 f_name fd_name ["_law_bag_here"] (liftSp sp_name)) (m_name : mg "_law_name" = some (.ref f_name)) (k_name : PySem.W.keepIn K (.ref f_name) = true) (b_name : Binds K fd_name ["_law_bag_here"] [])
    : FnOk P w K mg base CX0 3 f fd ["_law_bag_here", "_law_found", "_law_loose", "_law_once"] (liftSp sp_part) := by
  refine F.ok sc_part (lift_len (by rintro us M Q h; obtain ⟨g, h, web, loose, once, rfl, _⟩ := h; rfl)) (fun cdv A outer s H vs Q E hr h => ?_)
  refine def_ok ((ls_seq (ls_asg (le_op (lr_ix (K := K)) (le_tup (la_cons le_str (la_cons le_str (la_cons le_str (la_cons le_str (la_cons le_str (la_cons le_str (la_cons le_str (la_cons le_str (la_cons le_str (la_cons le_str (la_cons le_str (la_cons le_str la_nil))))))))))))) (le_callC (is := [0]) (dv := []) (fun _ => .nil) (la_cons (le_var (i := 0)) (la_cons le_int la_nil)))) (lg_name (i := 4)))
      (ls_cut (ls_asg (le_dget2 (le_disp (lps_cons le_str le_int (lps_cons le_str le_int (lps_cons le_str le_int (lps_cons le_str le_int (lps_cons le_str le_int lps_nil)))))) (le_var (i := 4)) le_int) (lg_name (i := 5)))
      (ls_cut (ls_asg (le_if (lt_B (le_var (i := 3))) (le_var (i := 2)) (le_listRange (le_cb (lc_len (K := K)) (la_cons (le_var (i := 1)) la_nil)))) (lg_name (i := 6)))
      (ls_cut (ls_if (lt_test (le_op lr_gt (le_var (i := 5)) (le_cb (lc_len (K := K)) (la_cons (le_var (i := 6)) la_nil)))) (ls_asg (le_tup (la_cons le_str (la_cons le_int la_nil))) (lg_tup (K := K) (n := 2) (lgs_cons (lg_name (i := 4)) (lgs_cons (lg_name (i := 5)) lgs_nil)))) ls_next)
      (ls_seq (ls_asg (le_lstC la_nil) (lg_name (i := 7)))
      (ls_cut (ls_for (li_rng1 (la_cons (le_var (i := 5)) la_nil)) (lg_name (i := 8)) (ls_seq (ls_asg (le_op (lr_ix (K := K)) (le_var (i := 6)) (le_callC (is := [0]) (dv := []) (fun _ => .nil) (la_cons (le_var (i := 0)) (la_cons (le_cb (lc_len (K := K)) (la_cons (le_var (i := 6)) la_nil)) la_nil)))) (lg_name (i := 9)))
      (ls_seq (ls_drop (le_bm (K := K) (ty_list (K := K)) lm_append (le_var (i := 7)) (la_cons (le_var (i := 9)) la_nil)))
      (ls_if (lt_test (le_op (lr_in (K := K)) (le_var (i := 9)) (le_var (i := 2)))) (ls_drop (le_bm (K := K) (ty_list (K := K)) lm_remI (le_var (i := 2)) (la_cons (le_var (i := 9)) la_nil))) ls_next))))
      (ls_frz (i := 7) (ls_cut (ls_asg (le_if (lt_test (le_op (lr_eq (K := K)) (le_var (i := 4)) le_str)) (le_callC (is := [0]) (dv := []) (fun _ => .nil) (la_cons (le_var (i := 0)) la_nil)) (le_if (lt_test (le_op (lr_eq (K := K)) (le_var (i := 4)) le_str)) (le_callC (is := [0]) (dv := []) (fun _ => .nil) (la_cons (le_var (i := 0)) la_nil)) le_non)) (lg_name (i := 10)))
      (ls_seq (ls_drop (le_bm (K := K) (ty_list (K := K)) lm_append (le_var (i := 2)) (la_cons (le_cb (lc_len (K := K)) (la_cons (le_var (i := 1)) la_nil)) la_nil)))
      (ls_drop (le_bm (K := K) (ty_list (K := K)) lm_append (le_var (i := 1)) (la_cons (le_tup (la_cons (le_var (i := 4)) (la_cons (le_var (i := 10)) (la_cons (le_cb (lc_tupOf (K := K)) (la_cons (le_var (i := 7)) la_nil)) la_nil)))) la_nil)))))))))))))
    ((pss_cons (ps_set (i := 4) sc_part.nd rfl (Or.inl rfl) (pe_ix (x_ix (K := K) rfl) (pe_tup (pa_cons pe_str (pa_cons pe_str (pa_cons pe_str (pa_cons pe_str (pa_cons pe_str (pa_cons pe_str (pa_cons pe_str (pa_cons pe_str (pa_cons pe_str (pa_cons pe_str (pa_cons pe_str (pa_cons pe_str pa_nil))))))))))))) (pe_call g_take (hr.mono (by omega)) (by rfl) m_take k_take b_take .nil pass0 (pa_cons (pv 0) (pa_cons pe_int pa_nil))) (fun _ _ => rfl)))
      (pss_cons (ps_set (i := 5) sc_part.nd rfl (Or.inl rfl) (pe_dget2 (hu_of hr) (pe_disp (pps_cons pe_str pe_int (pps_cons pe_str pe_int (pps_cons pe_str pe_int (pps_cons pe_str pe_int (pps_cons pe_str pe_int pps_nil))))) rfl rfl (fun q => nomatch q) (by decide)) (pv 4) pe_int ⟨by rfl, by rfl, by rfl, by rfl⟩))
      (pss_cons (ps_set (i := 6) sc_part.nd rfl (Or.inl rfl) (pe_ifExp (pt_val (pv 3)) (pv 2) (pe_listRg rfl (by rfl) B.list_ (prg_1 (by rfl) B.range_ (pe_callB (x_len (K := K) rfl) (by rfl) B.len_ bt_len (pa_cons (pv 1) pa_nil))))))
      (pss_cons (ps_if (pt_cmpR op_gt (pv 5) (pe_callB (x_len (K := K) rfl) (by rfl) B.len_ bt_len (pa_cons (pv 6) pa_nil)) (by first | exact nomark _ | rfl)) (pss_one (ps_asg (pe_tup (pa_cons pe_str (pa_cons pe_int pa_nil))) (pg_tup rfl (pgs_cons (pg_name (i := 4) sc_part.nd rfl (Or.inl rfl)) (pgs_cons (pg_name (i := 5) sc_part.nd rfl (Or.inl rfl)) pgs_nil))))) pss_nil)
      (pss_cons (ps_set (i := 7) sc_part.nd rfl (Or.inl rfl) (pe_lst pa_nil))
      (pss_cons (ps_for PassesOwn.never rfl (pi_range1 (by rfl) B.range_ (pa_cons (pv 5) pa_nil)) (pg_name (i := 8) sc_part.nd rfl (Or.inl rfl)) (pss_cons (ps_set (i := 9) sc_part.nd rfl (Or.inl rfl) (pe_ix (x_ix (K := K) rfl) (pv 6) (pe_call g_take (hr.mono (by omega)) (by rfl) m_take k_take b_take .nil pass0 (pa_cons (pv 0) (pa_cons (pe_callB (x_len (K := K) rfl) (by rfl) B.len_ bt_len (pa_cons (pv 6) pa_nil)) pa_nil))) (fun _ _ => rfl)))
      (pss_cons (ps_expr (pe_bm PySem.F.plainAttrs_list PySem.F.slot_list_append PySem.F.type_list_append mt_append (pv 7) (pa_cons (pv 9) pa_nil)))
      (pss_one (ps_if (pt_cmpR (x_in (K := K) rfl (hu65 hr)) (pv 9) (pv 2) (by first | exact nomark _ | rfl)) (pss_one (ps_expr (pe_bm PySem.F.plainAttrs_list PySem.F.slot_list_remove PySem.F.type_list_remove mt_remove (pv 2) (pa_cons (pv 9) pa_nil)))) pss_nil)))))
      (pss_cons (ps_set (i := 10) sc_part.nd rfl (Or.inl rfl) (pe_ifExp (pt_cmpR (x_eq (K := K) rfl (hu64 hr)) (pv 4) pe_str (by first | exact nomark _ | rfl)) (pe_call g_word (hr.mono (by omega)) (by rfl) m_word k_word b_word .nil pass0 (pa_cons (pv 0) pa_nil)) (pe_ifExp (pt_cmpR (x_eq (K := K) rfl (hu64 hr)) (pv 4) pe_str (by first | exact nomark _ | rfl)) (pe_call g_name (hr.mono (by omega)) (by rfl) m_name k_name b_name .nil pass0 (pa_cons (pv 0) pa_nil)) pe_non)))
      (pss_cons (ps_expr (pe_bm PySem.F.plainAttrs_list PySem.F.slot_list_append PySem.F.type_list_append mt_append (pv 2) (pa_cons (pe_callB (x_len (K := K) rfl) (by rfl) B.len_ bt_len (pa_cons (pv 1) pa_nil)) pa_nil)))
      (pss_one (ps_expr (pe_bm PySem.F.plainAttrs_list PySem.F.slot_list_append PySem.F.type_list_append mt_append (pv 1) (pa_cons (pe_tup (pa_cons (pv 4) (pa_cons (pv 10) (pa_cons (pe_callTy (x_tupOf (K := K) rfl) (by rfl) B.tuple_ bt_tuple (pa_cons (pv 7) pa_nil)) pa_nil)))) pa_nil)))))))))))))
    h (fun us M Qu hd => ?_)
  obtain ⟨g, h, web, loose, once, rfl, rfl, hb, hw, hl, ho, hlen, hll, k⟩ := hd
  walk_at "go"
  refine ⟨g, h, 12, rfl, rfl, hb, by decide, by decide, fun i g1 h1 hi0 hi1 hb1 => ?_⟩
  obtain ⟨op, many, hop, hom, hv⟩ := op_at i hi0 hi1
  refine ⟨_, _, _, rfl, rfl, hop, ?_⟩
  refine ⟨fun ρ M => ∃ (d : Ob) (x6 x7 x8 x9 x10 : Option U), ρ = [some (.p 0), some (.p 1), some (.p 2), some (.d (.bool once)), some (.d (.str op)), some (.d (.int (many : Int))), x6, x7, x8, x9, x10] ∧ M = [bagO g1 h1, webO web, looseO loose, d], ?_, ?_⟩
  · walk_at "go"
    refine ⟨by decide, by decide +kernel, ?_⟩
    walk_at "go"
    refine ⟨?_, ?_⟩
    · intro d hd
      rcases hv with ⟨hv, _⟩ | hv
      · exact absurd (hv.symm.trans hd) (by simp)
      · have e := Option.some.inj (hv.symm.trans hd)
        subst e
        exact ⟨_, _, _, _, _, _, rfl, rfl⟩
    · intro hd
      rcases hv with ⟨_, rfl⟩ | hv
      · exact ⟨_, _, _, _, _, _, rfl, rfl⟩
      · exact absurd (hd.symm.trans hv) (by simp)
  · rintro _ _ ⟨d, x6, x7, x8, x9, x10, rfl, rfl⟩
    refine ⟨fun ρ M => ∃ (x7 x8 x9 x10 : Option U), ρ = [some (.p 0), some (.p 1), some (.p 2), some (.d (.bool once)), some (.d (.str op)), some (.d (.int (many : Int))), some (if once = true then .p 2 else .d (.list (encKids (List.range web.length)))), x7, x8, x9, x10] ∧ M = [bagO g1 h1, webO web, looseO loose, d], ?_, ?_⟩
    · walk_at "go"
      cases once with
      | true =>
        walk_at "go"
        exact ⟨_, _, _, _, rfl, rfl⟩
      | false =>
        walk_at "go"
        rw [List.length_map]
        refine ⟨rg_ok (by omega), ?_⟩
        rw [rgD_kids]
        exact ⟨_, _, _, _, rfl, rfl⟩
    · rintro _ _ ⟨x7, x8, x9, x10, rfl, rfl⟩
      refine ⟨fun ρ M => ∃ (op : Str) (many : Nat) (x7 x8 x9 x10 : Option U), OpMany op many ∧ (once = true → many ≤ loose.length) ∧ (once = false → many ≤ web.length) ∧ ρ = [some (.p 0), some (.p 1), some (.p 2), some (.d (.bool once)), some (.d (.str op)), some (.d (.int (many : Int))), some (if once = true then .p 2 else .d (.list (encKids (List.range web.length)))), x7, x8, x9, x10] ∧ M = [bagO g1 h1, webO web, looseO loose, d], ?_, ?_⟩
      · cases once with
        | true =>
          walk_at "go"
          refine witeD (fun hc => ?_) (fun hc => ?_)
          · walk_at "go"
            exact ⟨"num", 0, _, _, _, _, .inl ⟨rfl, rfl⟩, fun _ => Nat.zero_le _, fun _ => Nat.zero_le _, rfl, rfl⟩
          · exact ⟨op, many, _, _, _, _, hom, fun _ => by simp [encKids] at hc; omega, (fun e => nomatch e), rfl, rfl⟩
        | false =>
          walk_at "go"
          refine witeD (fun hc => ?_) (fun hc => ?_)
          · walk_at "go"
            exact ⟨"num", 0, _, _, _, _, .inl ⟨rfl, rfl⟩, fun _ => Nat.zero_le _, fun _ => Nat.zero_le _, rfl, rfl⟩
          · exact ⟨op, many, _, _, _, _, hom, (fun e => nomatch e), fun _ => by simp [encKids] at hc; omega, rfl, rfl⟩
      · rintro _ _ ⟨op, many, x7, x8, x9, x10, hom, hm1, hm2, rfl, rfl⟩
        walk_at "go"
        refine ⟨fun ρ M => ∃ (kids loose2 : List Nat) (g h : Int) (x8 x9 x10 : Option U), kids.length = many ∧ KidSt once web loose loose2 kids ∧ bagOk g h ∧ ρ = [some (.p 0), some (.p 1), some (.p 2), some (.d (.bool once)), some (.d (.str op)), some (.d (.int (many : Int))), some (if once = true then .p 2 else .d (.list (encKids (List.range web.length)))), some (.p 4), x8, x9, x10] ∧ M = [bagO g h, webO web, looseO loose2, d, looseO kids], ?_, ?_⟩
        · have hmany : many ≤ 2 := by rcases hom with ⟨_, e⟩ | ⟨_, e⟩ | ⟨_, e⟩ | ⟨_, e⟩ <;> omega
          walk_at "go"
          refine ⟨by omega, ?_⟩
          have hsl : 1000000 ≤ sizeLine := by decide
          refine wLoop_rec (fun us ρ M => ∃ (i : Int) (n : Nat) (kids loose2 : List Nat) (g h : Int) (x8 x9 x10 : Option U), us = intsU i n ∧ kids.length + n = many ∧ KidSt once web loose loose2 kids ∧ bagOk g h ∧ ρ = [some (.p 0), some (.p 1), some (.p 2), some (.d (.bool once)), some (.d (.str op)), some (.d (.int (many : Int))), some (if once = true then .p 2 else .d (.list (encKids (List.range web.length)))), some (.p 4), x8, x9, x10] ∧ M = [bagO g h, webO web, looseO loose2, d, looseO kids])
            ?_ ?_ _ _ _ ⟨0, many, [], loose, g1, h1, _, _, _, by rw [Int.toNat_natCast], by simp, ⟨hl.nd, fun i => by simp, fun k hk => (nomatch hk), fun _ => ⟨List.nodup_nil, fun k hk => (nomatch hk), rfl⟩, Nat.le_refl _⟩, hb1, rfl, rfl⟩
          · rintro ρ M ⟨i, n, kids, loose2, g2, h2, x8, x9, x10, hu, hkn, hks, hb2, rfl, rfl⟩
            cases n with
            | succ n => rw [intsU_succ] at hu; cases hu
            | zero =>
              refine ⟨trivial, kids, loose2, g2, h2, _, _, _, by omega, hks, hb2, rfl, rfl⟩
          · rintro u us ih ρ M ⟨i, n, kids, loose2, g2, h2, x8, x9, x10, hu, hkn, hks, hb2, rfl, rfl⟩
            cases n with
            | zero => cases hu
            | succ n =>
              rw [intsU_succ] at hu
              cases hu
              refine ⟨trivial, ?_⟩
              -- the row that is drawn from
              obtain ⟨sm, hv, hlt, hso, hpos, hsm⟩ : ∃ sm : List Nat, (∀ g h : Int, view [bagO g h, webO web, looseO loose2, d, looseO kids] (if once = true then .p 2 else .d (.list (encKids (List.range web.length)))) = some (.list (encKids sm))) ∧ (∀ k ∈ sm, k < web.length) ∧ (once = true → sm = loose2) ∧ 0 < sm.length ∧ sm.length ≤ 1000 := by
                cases once with
                | true =>
                  obtain ⟨q1, q2, q3⟩ := hks.on rfl
                  exact ⟨loose2, fun _ _ => rfl, fun k hk => hl.lt k ((hks.mem k).mp hk).1, fun _ => rfl, by have := hm1 rfl; omega, by omega⟩
                | false => exact ⟨List.range web.length, fun _ _ => rfl, fun k hk => List.mem_range.mp hk, (fun e => nomatch e), by have := hm2 rfl; rw [List.length_range]; omega, by rw [List.length_range]; omega⟩
              walk_at "go"
              refine ⟨_, _, _, rfl, len_view (hv g2 h2), trivial, ?_⟩
              walk_at "go"
              refine ⟨g2, h2, (sm.length : Int), rfl, rfl, hb2, by omega, by omega, fun j g3 h3 hj0 hj1 hb3 => ?_⟩
              obtain ⟨kk, hkk, hat⟩ := kids_at sm j hj0 hj1
              refine ⟨_, _, _, hv g3 h3, rfl, ix_l hat, ?_⟩
              walk_at "go"
              refine ⟨.inl ⟨_, rfl⟩, ?_⟩
              walk_at "go"
              refine ⟨by simp [encKids]; omega, ?_⟩
              walk_at "go"
              refine ⟨_, _, _, _, rfl, rfl, rfl, ⟨rfl, kids_shaped loose2⟩, ?_⟩
              rw [kids_in]
              refine ⟨_, rfl, ?_⟩
              refine witeD (fun hin => ?_) (fun hin => ?_)
              · walk_at "go"
                refine ⟨.inl ⟨_, rfl⟩, ?_⟩
                walk_at "go"
                refine ⟨2, loose2.map (fun (k : Nat) => (k : Int)), (kk : Int), rfl, rfl, by rw [← kids_ints]; rfl, List.mem_map.mpr ⟨kk, hin, rfl⟩, ?_⟩
                rw [kids_erase]
                exact ih _ _ ⟨i + 1, n, kids ++ [kk], loose2.erase kk, g3, h3, _, _, _, rfl, by simp; omega, kid_drop hks (hlt _ hkk) hin, hb3, rfl, by rw [← kids_snoc]; rfl⟩
              · exact ih _ _ ⟨i + 1, n, kids ++ [kk], loose2, g3, h3, _, _, _, rfl, by simp; omega, kid_keep hks (hlt _ hkk) (fun e => hso e ▸ hkk) hin, hb3, rfl, by rw [← kids_snoc]; rfl⟩
        · rintro _ _ ⟨kids, loose2, g2, h2, x8, x9, x10, hkl, hks, hb2, rfl, rfl⟩
          walk_at "go"
          refine ⟨fun ρ M => ∃ (mark : PyData) (g h : Int) (x8 x9 : Option U), GoodNd web.length ⟨op, mark, kids⟩ ∧ bagOk g h ∧ ρ = [some (.p 0), some (.p 1), some (.p 2), some (.d (.bool once)), some (.d (.str op)), some (.d (.int (many : Int))), some (if once = true then .p 2 else .d (.list (encKids (List.range web.length)))), some (.d (.list (encKids kids))), x8, x9, some (.d mark)] ∧ M = [bagO g h, webO web, looseO loose2, d, .dead], ?_, ?_⟩
          · have k0 : many = 0 → kids = [] := fun e => List.length_eq_zero_iff.mp (hkl.trans e)
            rcases hom with ⟨rfl, e⟩ | ⟨rfl, e⟩ | ⟨hop1, e⟩ | ⟨hop2, e⟩
            · walk_at "go"
              refine ⟨hb2, fun w g h hw0 hw1 hb => ?_⟩
              exact ⟨.int w, g, h, _, _, .inl ⟨rfl, ⟨w, rfl, hw0, hw1⟩, k0 e⟩, hb, rfl, rfl⟩
            · walk_at "go"
              refine ⟨hb2, fun w g h hw0 hb => ?_⟩
              exact ⟨.str w, g, h, _, _, .inr (.inl ⟨rfl, ⟨w, rfl, hw0⟩, k0 e⟩), hb, rfl, rfl⟩
            · simp only [ops1, List.mem_cons, List.not_mem_nil, or_false] at hop1
              obtain ⟨a, rfl⟩ : ∃ a, kids = [a] := List.length_eq_one_iff.mp (hkl.trans e)
              have hgn : ∀ o, o ∈ ops1 → GoodNd web.length ⟨o, .none, [a]⟩ := fun o ho => .inr (.inr (.inl ⟨ho, rfl, a, rfl, hks.lt a List.mem_cons_self⟩))
              rcases hop1 with rfl | rfl | rfl <;> (walk_at "go"; exact ⟨.none, g2, h2, _, _, hgn _ (by decide), hb2, rfl, rfl⟩)
            · simp only [ops2, List.mem_cons, List.not_mem_nil, or_false] at hop2
              obtain ⟨a, b, rfl⟩ : ∃ a b, kids = [a, b] := len_two (hkl.trans e)
              have hgn : ∀ o, o ∈ ops2 → GoodNd web.length ⟨o, .none, [a, b]⟩ := fun o ho => .inr (.inr (.inr ⟨ho, rfl, a, b, rfl, hks.lt a List.mem_cons_self, hks.lt b (List.mem_cons_of_mem _ List.mem_cons_self)⟩))
              rcases hop2 with rfl | rfl | rfl | rfl | rfl | rfl <;> (walk_at "go"; exact ⟨.none, g2, h2, _, _, hgn _ (by decide), hb2, rfl, rfl⟩)
          · rintro _ _ ⟨mark, g3, h3, x8, x9, hgn, hb3, rfl, rfl⟩
            walk_at "go"
            refine ⟨.inl ⟨_, rfl⟩, ?_⟩
            walk_at "go"
            have hle := hks.le
            have hsl : 1000000 ≤ sizeLine := by decide
            refine ⟨by simp [encKids]; omega, ?_⟩
            walk_at "go"
            refine ⟨.inl ⟨_, rfl⟩, ?_⟩
            walk_at "go"
            refine ⟨by simp; omega, ?_⟩
            refine fin_d (show 3 ≤ 5 from by decide) (fun o ho => ?_) ?_
            · simp at ho
              rcases ho with rfl | rfl | rfl <;> exact trivial
            · show Qu _ [bagO g3 h3, .lst (web.map Nd.enc ++ [Nd.enc ⟨op, mark, kids⟩]), .lst (encKids loose2 ++ [.int (((web.map Nd.enc).length : Nat) : Int)])]
              rw [List.length_map, kids_snoc, show Ob.lst (web.map Nd.enc ++ [Nd.enc ⟨op, mark, kids⟩]) = webO (web ++ [⟨op, mark, kids⟩]) by simp [webO]]
              exact k _ _ _ _ (part_snoc hw hgn) (loose_snoc hw hl hks) (once_snoc hl ho hks) hb3 (by simp) (by simp; omega)

/-! ### web -/
abbrev s_web : Stmt := top 29
theorem sc_web : FnScope ["_law_bag_here", "_law_many", "_law_once", "_law_found", "_law_loose", "_law_turn", "_law_one", "_law_other", "_law_kids"] ["_law_bag_here", "_law_many", "_law_once"] (defScope s_web) := ⟨rfl, rfl, rfl, by decide +kernel, rfl, by decide +kernel, by decide +kernel⟩
theorem ok_web {f : Addr} {fd : FuncData} (F : Fun K "_law_web" "_law_web" s_web f fd) (B : Bln mg) (G : Gln w K mg)
    {f_part : Addr} {fd_part : FuncData} (g_part : FnOk P w K mg base CX0 3 f_part fd_part ["_law_bag_here", "_law_found", "_law_loose", "_law_once"] (liftSp sp_part)) (m_part : mg "_law_part" = some (.ref f_part)) (k_part : PySem.W.keepIn K (.ref f_part) = true) (b_part : Binds K fd_part ["_law_bag_here", "_law_found", "_law_loose", "_law_once"] [])
    {f_take : Addr} {fd_take : FuncData} (g_take : FnOk P w K mg base CX0 1 f_take fd_take ["_law_bag_here", "_law_many"] (liftSp sp_take)) (m_take : mg "_law_take" = some (.ref f_take)) (k_take : PySem.W.keepIn K (.ref f_take) = true) (b_take : Binds K fd_take ["_law_bag_here", "_law_many"] [])
    {f_name : Addr} {fd_name : FuncData} (g_name : FnOk P w K mg base CX0 2 f_name fd_name ["_law_bag_here"] (liftSp sp_name)) (m_name : mg "_law_name" = some (.ref f_name)) (k_name : PySem.W.keepIn K (.ref f_name) = true) (b_name : Binds K fd_name ["_law_bag_here"] [])
    : FnOk P w K mg base CX0 4 f fd ["_law_bag_here", "_law_many", "_law_once"] (liftSp sp_web) := by
  refine F.ok sc_web (lift_len (by rintro us M Q h; obtain ⟨g, h, many, once, rfl, _⟩ := h; rfl)) (fun cdv A outer s H vs Q E hr h => ?_)
  refine def_ok ((ls_seq (ls_par (i := 3) (j := 4) (la_cons (le_lstC la_nil) (la_cons (le_lstC la_nil) la_nil)))
      (ls_cut (ls_for (li_rng1 (la_cons (le_var (i := 1)) la_nil)) (lg_name (i := 5)) (ls_drop (le_callC (is := [0, 1, 2]) (dv := []) (fun _ => .nil) (la_cons (le_var (i := 0)) (la_cons (le_var (i := 3)) (la_cons (le_var (i := 4)) (la_cons (le_var (i := 2)) la_nil)))))))
      (ls_cut (ls_while (lt_test (le_op lr_gt (le_cb (lc_len (K := K)) (la_cons (le_var (i := 4)) la_nil)) le_int)) (ls_seq (ls_par (i := 6) (j := 7) (la_cons (le_bm (K := K) (ty_list (K := K)) lm_popAt (le_var (i := 4)) (la_cons (le_callC (is := [0]) (dv := []) (fun _ => .nil) (la_cons (le_var (i := 0)) (la_cons (le_cb (lc_len (K := K)) (la_cons (le_var (i := 4)) la_nil)) la_nil))) la_nil)) (la_cons (le_bm (K := K) (ty_list (K := K)) lm_popAt (le_var (i := 4)) (la_cons (le_callC (is := [0]) (dv := []) (fun _ => .nil) (la_cons (le_var (i := 0)) (la_cons (le_cb (lc_len (K := K)) (la_cons (le_var (i := 4)) la_nil)) la_nil))) la_nil)) la_nil)))
      (ls_seq (ls_drop (le_bm (K := K) (ty_list (K := K)) lm_append (le_var (i := 4)) (la_cons (le_cb (lc_len (K := K)) (la_cons (le_var (i := 3)) la_nil)) la_nil)))
      (ls_drop (le_bm (K := K) (ty_list (K := K)) lm_append (le_var (i := 3)) (la_cons (le_tup (la_cons (le_op (lr_ix (K := K)) (le_tup (la_cons le_str (la_cons le_str (la_cons le_str la_nil)))) (le_callC (is := [0]) (dv := []) (fun _ => .nil) (la_cons (le_var (i := 0)) (la_cons le_int la_nil)))) (la_cons le_non (la_cons (le_tup (la_cons (le_var (i := 6)) (la_cons (le_var (i := 7)) la_nil))) la_nil)))) la_nil))))))
      (ls_seq (ls_if (lt_test (le_op (lr_eq (K := K)) (le_cb (lc_len (K := K)) (la_cons (le_var (i := 4)) la_nil)) le_int)) (ls_ret (le_op (lr_add (K := K)) (le_var (i := 3)) (le_lst (la_cons (le_tup (la_cons le_str (la_cons le_non (la_cons (le_tup (la_cons (le_op (lr_ix (K := K)) (le_var (i := 4)) le_int) (la_cons (le_op (lr_ix (K := K)) (le_var (i := 4)) le_int) la_nil))) la_nil)))) la_nil)))) ls_next)
      (ls_seq (ls_if (lt_and (lt_not (lt_B (le_var (i := 2)))) (lt_test (le_op (lr_eq (K := K)) (le_callC (is := [0]) (dv := []) (fun _ => .nil) (la_cons (le_var (i := 0)) (la_cons le_int la_nil))) le_int))) (ls_seq (ls_asg (le_callC (is := [0]) (dv := []) (fun _ => .nil) (la_cons (le_var (i := 0)) (la_cons (le_cb (lc_len (K := K)) (la_cons (le_var (i := 3)) la_nil)) la_nil))) (lg_name (i := 7)))
      (ls_seq (ls_asg (le_if (lt_test (le_op (lr_eq (K := K)) (le_callC (is := [0]) (dv := []) (fun _ => .nil) (la_cons (le_var (i := 0)) (la_cons le_int la_nil))) le_int)) (le_tup (la_cons (le_op (lr_ix (K := K)) (le_var (i := 4)) le_int) (la_cons (le_var (i := 7)) la_nil))) (le_tup (la_cons (le_var (i := 7)) (la_cons (le_op (lr_ix (K := K)) (le_var (i := 4)) le_int) la_nil)))) (lg_name (i := 8)))
      (ls_ret (le_op (lr_add (K := K)) (le_var (i := 3)) (le_lst (la_cons (le_tup (la_cons le_str (la_cons le_non (la_cons (le_var (i := 8)) la_nil)))) la_nil)))))) ls_next)
      (ls_ret (le_op (lr_add (K := K)) (le_var (i := 3)) (le_lst (la_cons (le_tup (la_cons le_str (la_cons (le_callC (is := [0]) (dv := []) (fun _ => .nil) (la_cons (le_var (i := 0)) la_nil)) (la_cons (le_tup (la_cons (le_op (lr_ix (K := K)) (le_var (i := 4)) le_int) la_nil)) la_nil)))) la_nil))))))))))
    ((pss_cons (ps_par (i := 3) (j := 4) rfl sc_web.nd rfl rfl (by decide) rfl rfl (pa_cons (pe_lst pa_nil) (pa_cons (pe_lst pa_nil) pa_nil)) rfl)
      (pss_cons (ps_for PassesOwn.never rfl (pi_range1 (by rfl) B.range_ (pa_cons (pv 1) pa_nil)) (pg_name (i := 5) sc_web.nd rfl (Or.inl rfl)) (pss_one (ps_expr (pe_call g_part (hr.mono (by omega)) (by rfl) m_part k_part b_part .nil pass0 (pa_cons (pv 0) (pa_cons (pv 3) (pa_cons (pv 4) (pa_cons (pv 2) pa_nil))))))))
      (pss_cons (ps_while PassesOwn.never (pt_cmpR op_gt (pe_callB (x_len (K := K) rfl) (by rfl) B.len_ bt_len (pa_cons (pv 4) pa_nil)) pe_int (by first | exact nomark _ | rfl)) (pss_cons (ps_par (i := 6) (j := 7) rfl sc_web.nd rfl rfl (by decide) rfl rfl (pa_cons (pe_bm PySem.F.plainAttrs_list PySem.F.slot_list_pop PySem.F.type_list_pop mt_popAt (pv 4) (pa_cons (pe_call g_take (hr.mono (by omega)) (by rfl) m_take k_take b_take .nil pass0 (pa_cons (pv 0) (pa_cons (pe_callB (x_len (K := K) rfl) (by rfl) B.len_ bt_len (pa_cons (pv 4) pa_nil)) pa_nil))) pa_nil)) (pa_cons (pe_bm PySem.F.plainAttrs_list PySem.F.slot_list_pop PySem.F.type_list_pop mt_popAt (pv 4) (pa_cons (pe_call g_take (hr.mono (by omega)) (by rfl) m_take k_take b_take .nil pass0 (pa_cons (pv 0) (pa_cons (pe_callB (x_len (K := K) rfl) (by rfl) B.len_ bt_len (pa_cons (pv 4) pa_nil)) pa_nil))) pa_nil)) pa_nil)) rfl)
      (pss_cons (ps_expr (pe_bm PySem.F.plainAttrs_list PySem.F.slot_list_append PySem.F.type_list_append mt_append (pv 4) (pa_cons (pe_callB (x_len (K := K) rfl) (by rfl) B.len_ bt_len (pa_cons (pv 3) pa_nil)) pa_nil)))
      (pss_one (ps_expr (pe_bm PySem.F.plainAttrs_list PySem.F.slot_list_append PySem.F.type_list_append mt_append (pv 3) (pa_cons (pe_tup (pa_cons (pe_ix (x_ix (K := K) rfl) (pe_tup (pa_cons pe_str (pa_cons pe_str (pa_cons pe_str pa_nil)))) (pe_call g_take (hr.mono (by omega)) (by rfl) m_take k_take b_take .nil pass0 (pa_cons (pv 0) (pa_cons pe_int pa_nil))) (fun _ _ => rfl)) (pa_cons pe_non (pa_cons (pe_tup (pa_cons (pv 6) (pa_cons (pv 7) pa_nil))) pa_nil)))) pa_nil)))))))
      (pss_cons (ps_if (pt_cmpR (x_eq (K := K) rfl (hu64 hr)) (pe_callB (x_len (K := K) rfl) (by rfl) B.len_ bt_len (pa_cons (pv 4) pa_nil)) pe_int (by first | exact nomark _ | rfl)) (pss_one (ps_ret (pe_op (x_add (K := K) rfl) (pv 3) (pe_lst (pa_cons (pe_tup (pa_cons pe_str (pa_cons pe_non (pa_cons (pe_tup (pa_cons (pe_ix (x_ix (K := K) rfl) (pv 4) pe_int (fun _ _ => rfl)) (pa_cons (pe_ix (x_ix (K := K) rfl) (pv 4) pe_int (fun _ _ => rfl)) pa_nil))) pa_nil)))) pa_nil))))) pss_nil)
      (pss_cons (ps_if (PW.pt (pw_and (pt_not (pt_val (pv 2))) (pw_and1 (pt_cmpR (x_eq (K := K) rfl (hu64 hr)) (pe_call g_take (hr.mono (by omega)) (by rfl) m_take k_take b_take .nil pass0 (pa_cons (pv 0) (pa_cons pe_int pa_nil))) pe_int (by first | exact nomark _ | rfl))))) (pss_cons (ps_set (i := 7) sc_web.nd rfl (Or.inl rfl) (pe_call g_take (hr.mono (by omega)) (by rfl) m_take k_take b_take .nil pass0 (pa_cons (pv 0) (pa_cons (pe_callB (x_len (K := K) rfl) (by rfl) B.len_ bt_len (pa_cons (pv 3) pa_nil)) pa_nil))))
      (pss_cons (ps_set (i := 8) sc_web.nd rfl (Or.inl rfl) (pe_ifExp (pt_cmpR (x_eq (K := K) rfl (hu64 hr)) (pe_call g_take (hr.mono (by omega)) (by rfl) m_take k_take b_take .nil pass0 (pa_cons (pv 0) (pa_cons pe_int pa_nil))) pe_int (by first | exact nomark _ | rfl)) (pe_tup (pa_cons (pe_ix (x_ix (K := K) rfl) (pv 4) pe_int (fun _ _ => rfl)) (pa_cons (pv 7) pa_nil))) (pe_tup (pa_cons (pv 7) (pa_cons (pe_ix (x_ix (K := K) rfl) (pv 4) pe_int (fun _ _ => rfl)) pa_nil)))))
      (pss_one (ps_ret (pe_op (x_add (K := K) rfl) (pv 3) (pe_lst (pa_cons (pe_tup (pa_cons pe_str (pa_cons pe_non (pa_cons (pv 8) pa_nil)))) pa_nil))))))) pss_nil)
      (pss_one (ps_ret (pe_op (x_add (K := K) rfl) (pv 3) (pe_lst (pa_cons (pe_tup (pa_cons pe_str (pa_cons (pe_call g_name (hr.mono (by omega)) (by rfl) m_name k_name b_name .nil pass0 (pa_cons (pv 0) pa_nil)) (pa_cons (pe_tup (pa_cons (pe_ix (x_ix (K := K) rfl) (pv 4) pe_int (fun _ _ => rfl)) pa_nil)) pa_nil)))) pa_nil)))))))))))
    h (fun us M Qu hd => ?_)
  obtain ⟨g, h, many, once, rfl, rfl, hb, hm1, hm2, k⟩ := hd
  skip
  have hsl : 1000000 ≤ sizeLine := by decide
  walk_at "go"
  refine ⟨(fun ρ M => ∃ (web : List Nd) (loose : List Nat) (g h : Int) (x_turn x_one x_other x_kids : Option U), (bagOk g h) ∧ (PartOk web) ∧ (Loose web loose) ∧ (OnceOk once web) ∧ (loose ≠ []) ∧ (web.length + loose.length ≤ 2 * many) ∧ ρ = [some (.p 0), some (.d (.int (many))), some (.d (.bool (once))), some (.p 1), some (.p 2), x_turn, x_one, x_other, x_kids] ∧ M = [bagO g h, webO web, looseO loose]), ?_, ?_⟩
  · walk_at "go"
    refine ⟨by omega, ?_⟩
    refine wLoop_rec (fun us ρ M => ∃ (i : Int) (n : Nat) (web : List Nd) (loose : List Nat) (g h : Int) (x_turn x_one x_other x_kids : Option U), (us = intsU i n) ∧ (web.length + n = many) ∧ (bagOk g h) ∧ (PartOk web) ∧ (Loose web loose) ∧ (OnceOk once web) ∧ (n = many ∨ loose ≠ []) ∧ (loose.length ≤ web.length) ∧ ρ = [some (.p 0), some (.d (.int (many))), some (.d (.bool (once))), some (.p 1), some (.p 2), x_turn, x_one, x_other, x_kids] ∧ M = [bagO g h, webO web, looseO loose]) ?_ ?_ _ _ _ ⟨0, many, [], [], g, h, _, _, _, _, by rw [Int.toNat_natCast], by simp, hb, fun i n hn => by simp at hn, ⟨List.nodup_nil, by simp, by simp⟩, fun _ => List.nodup_nil, .inl rfl, Nat.le_refl _, rfl, rfl⟩
    · rintro ρ M ⟨i, n, web, loose, g, h, x_turn, x_one, x_other, x_kids, hu, hn, hb, hw, hl, ho, hne, hlen, rfl, rfl⟩
      cases n with
      | succ n => rw [intsU_succ] at hu; cases hu
      | zero =>
        exact ⟨trivial, ⟨web, loose, g, h, _, _, _, _, hb, hw, hl, ho, hne.elim (fun e => absurd e (by omega)) id, by omega, rfl, rfl⟩⟩
    · rintro u us ih ρ M ⟨i, n, web, loose, g, h, x_turn, x_one, x_other, x_kids, hu, hn, hb, hw, hl, ho, hne, hlen, rfl, rfl⟩
      cases n with
      | zero => cases hu
      | succ n =>
        rw [intsU_succ] at hu
        cases hu
        refine ⟨trivial, ?_⟩
        walk_at "go"
        refine ⟨_, _, web, loose, once, rfl, rfl, hb, hw, hl, ho, by omega, hlen, fun n' loose' g h hw hl ho hb hin hle => ?_⟩
        exact ih _ _ ⟨i + 1, n, web ++ [n'], loose', g, h, _, _, _, _, rfl, by simp; omega, hb, hw, hl, ho, .inr (List.ne_nil_of_mem hin), by simp; omega, rfl, rfl⟩
  · rintro _ _ ⟨web, loose, g, h, x_turn, x_one, x_other, x_kids, hb, hw, hl, ho, hne, hlen, rfl, rfl⟩
    refine ⟨(fun ρ M => ∃ (web : List Nd) (loose : List Nat) (g h : Int) (x_turn x_one x_other x_kids : Option U), (bagOk g h) ∧ (PartOk web) ∧ (Loose web loose) ∧ (OnceOk once web) ∧ (loose ≠ []) ∧ (loose.length ≤ 2) ∧ (web.length + loose.length ≤ 2 * many) ∧ ρ = [some (.p 0), some (.d (.int (many))), some (.d (.bool (once))), some (.p 1), some (.p 2), x_turn, x_one, x_other, x_kids] ∧ M = [bagO g h, webO web, looseO loose]), ?_, ?_⟩
    · walk_at "go"
      refine ⟨fun m ρ M => loose.length ≤ loose.length ∧ ∃ (web : List Nd) (loose : List Nat) (g h : Int) (x5 x6 x7 x8 : Option U), m = loose.length ∧ bagOk g h ∧ PartOk web ∧ Loose web loose ∧ OnceOk once web ∧ loose ≠ [] ∧ web.length + loose.length ≤ 2 * many ∧ ρ = [some (.p 0), some (.d (.int many)), some (.d (.bool once)), some (.p 1), some (.p 2), x5, x6, x7, x8] ∧ M = [bagO g h, webO web, looseO loose], ⟨_, Nat.le_refl _, web, loose, g, h, _, _, _, _, rfl, hb, hw, hl, ho, hne, hlen, rfl, rfl⟩, ?_⟩
      rintro m _ _ ⟨_, web, loose, g, h, x5, x6, x7, x8, rfl, hb, hw, hl, ho, hne, hlen, rfl, rfl⟩
      walk_at "go"
      refine witeD (fun hgt => ?_) (fun hle => ?_)
      · have hgt2 : 2 < loose.length := by simp [encKids] at hgt; omega
        walk_at "go"
        refine ⟨.inl ⟨_, rfl⟩, ?_⟩
        walk_at "go"
        refine ⟨_, _, _, rfl, rfl, hb, by first | decide | omega | (simp only [List.length_map, len_kids]; omega) | (simp <;> omega), by first | decide | omega | (simp only [List.length_map, len_kids]; omega) | (simp <;> omega), fun r g h r_0 r_1 hb => ?_⟩
        rw [len_kids] at r_1
        obtain ⟨p1, a, hp1, hp2, ha, hp3⟩ := pop_at hl.nd r r_0 r_1
        refine ⟨_, _, _, _, _, rfl, rfl, rfl, ⟨by omega, by omega⟩, hp1, hp2, ?_⟩
        rw [hp3]
        have hl1 : (loose.erase a).length = loose.length - 1 := List.length_erase_of_mem ha
        walk_at "go"
        refine ⟨.inl ⟨_, rfl⟩, ?_⟩
        walk_at "go"
        refine ⟨_, _, _, rfl, rfl, hb, by first | decide | omega | (simp only [List.length_map, len_kids]; omega) | (simp <;> omega), by first | decide | omega | (simp only [List.length_map, len_kids]; omega) | (simp <;> omega), fun q g h q_0 q_1 hb => ?_⟩
        rw [len_kids] at q_1
        obtain ⟨p2, b, hq1, hq2, hbm, hq3⟩ := pop_at (hl.nd.erase a) q q_0 q_1
        refine ⟨_, _, _, _, _, rfl, rfl, rfl, ⟨by omega, by omega⟩, hq1, hq2, ?_⟩
        rw [hq3]
        have hl2 : ((loose.erase a).erase b).length = loose.length - 2 := by rw [List.length_erase_of_mem hbm]; omega
        walk_at "go"
        refine ⟨.inl ⟨_, rfl⟩, ?_⟩
        walk_at "go"
        refine ⟨by simp [len_kids]; omega, ?_⟩
        walk_at "go"
        refine ⟨.inl ⟨_, rfl⟩, ?_⟩
        walk_at "go"
        refine ⟨_, _, 3, rfl, rfl, hb, by first | decide | omega | (simp only [List.length_map, len_kids]; omega) | (simp <;> omega), by first | decide | omega | (simp only [List.length_map, len_kids]; omega) | (simp <;> omega), fun t g h t_0 t_1 hb => ?_⟩
        obtain ⟨op, hop, hop2⟩ := join_op t t_0 t_1
        refine ⟨_, _, _, rfl, rfl, ix_t hop, ?_⟩
        walk_at "go"
        refine ⟨by simp; omega, ?_⟩
        have hks0 : KidSt once web loose loose [] := ⟨hl.nd, fun i => by simp, fun k hk => (nomatch hk), fun _ => ⟨List.nodup_nil, fun k hk => (nomatch hk), rfl⟩, Nat.le_refl _⟩
        have hks1 := kid_drop hks0 (hl.lt a ha) ha
        have hks2 := kid_drop hks1 (hl.lt b (List.mem_of_mem_erase hbm)) hbm
        have hgn : GoodNd web.length ⟨op, .none, [a, b]⟩ := .inr (.inr (.inr ⟨hop2, rfl, a, b, rfl, hl.lt a ha, hl.lt b (List.mem_of_mem_erase hbm)⟩))
        rw [List.length_map]
        refine ⟨loose.length - 1, by omega, Nat.le_refl _, web ++ [⟨op, .none, [a, b]⟩], (loose.erase a).erase b ++ [web.length], _, _, _, _, _, _, by simp; omega, hb, part_snoc hw hgn, loose_snoc hw hl hks2, once_snoc hl ho hks2, by simp, by simp; omega, rfl, ?_⟩
        rw [← kids_snoc, ← web_snoc]
        rfl
      · exact ⟨web, loose, g, h, _, _, _, _, hb, hw, hl, ho, hne, by simp [encKids] at hle; omega, hlen, rfl, rfl⟩
    · rintro _ _ ⟨web, loose, g, h, x_turn, x_one, x_other, x_kids, hb, hw, hl, ho, hne, h2, hlen, rfl, rfl⟩
      walk_at "go"
      rw [len_kids, eqv_i]
      refine witeD (fun h2e => ?_) (fun h2n => ?_)
      · obtain ⟨a, b, rfl⟩ := len_two (Int.ofNat_inj.mp h2e)
        walk_at "go"
        refine ⟨_, _, _, _, rfl, rfl, rfl, by simp; omega, ?_⟩
        refine fin_be (enc_snoc web ⟨"put", .none, [a, b]⟩) (k web _ _ _ (web_put hw hl ho rfl (hl.lt a (by simp)) (hl.lt b (by simp)) (fun x hx => hx) fun _ => rfl) ?_ ?_ hb)
        · have := hl.lt a (by simp); omega
        · simp at hlen; omega
      · obtain ⟨a, rfl⟩ : ∃ a, loose = [a] := List.length_eq_one_iff.mp (by have := List.length_pos_iff.mpr hne; omega)
        have ha := hl.lt a (by simp)
        have hlen' : web.length + 1 ≤ 2 * many := by simpa using hlen
        cases once with
        | true =>
          walk_at "go"
          refine ⟨hb, fun s g h hs hb => ?_⟩
          walk_at "go"
          refine ⟨_, _, _, _, rfl, rfl, rfl, by simp; omega, ?_⟩
          exact fin_be (enc_snoc web ⟨"set", .str s, [a]⟩) (k web _ _ _ (web_set hw hl ho hs) (by omega) hlen' hb)
        | false =>
          walk_at "go"
          refine ⟨_, _, 2, rfl, rfl, hb, by first | decide | omega | (simp only [List.length_map, len_kids]; omega) | (simp <;> omega), by first | decide | omega | (simp only [List.length_map, len_kids]; omega) | (simp <;> omega), fun r g h r_0 r_1 hb => ?_⟩
          walk_at "go"
          rw [eqv_i]
          refine witeD (fun _ => ?_) (fun _ => ?_)
          · walk_at "go"
            refine ⟨_, _, _, rfl, rfl, hb, by first | decide | omega | (simp only [List.length_map, len_kids]; omega) | (simp <;> omega), by first | decide | omega | (simp only [List.length_map, len_kids]; omega) | (simp <;> omega), fun q g h q_0 q_1 hb => ?_⟩
            rw [List.length_map] at q_1
            obtain ⟨b, rfl⟩ : ∃ b : Nat, q = (b : Int) := ⟨q.toNat, by omega⟩
            walk_at "go"
            refine ⟨_, _, 2, rfl, rfl, hb, by first | decide | omega | (simp only [List.length_map, len_kids]; omega) | (simp <;> omega), by first | decide | omega | (simp only [List.length_map, len_kids]; omega) | (simp <;> omega), fun t g h t_0 t_1 hb => ?_⟩
            walk_at "go"
            rw [eqv_i]
            have hput : ∀ ks, (ks = [a, b] ∨ ks = [b, a]) → WebG false web ⟨"put", .none, ks⟩ := fun ks hk => by
              rcases hk with rfl | rfl
              · exact web_put hw hl ho rfl ha (by omega) (fun x hx => by simp at hx; simp [hx]) nofun
              · exact web_put hw hl ho rfl (by omega) ha (fun x hx => by simp at hx; simp [hx]) nofun
            refine witeD (fun _ => ?_) (fun _ => ?_)
            · walk_at "go"
              refine ⟨_, _, _, _, rfl, rfl, rfl, by simp; omega, ?_⟩
              exact fin_be (enc_snoc web ⟨"put", .none, [a, b]⟩) (k web _ _ _ (hput _ (.inl rfl)) (by omega) hlen' hb)
            · walk_at "go"
              refine ⟨_, _, _, _, rfl, rfl, rfl, by simp; omega, ?_⟩
              exact fin_be (enc_snoc web ⟨"put", .none, [b, a]⟩) (k web _ _ _ (hput _ (.inr rfl)) (by omega) hlen' hb)
          · walk_at "go"
            refine ⟨hb, fun s g h hs hb => ?_⟩
            walk_at "go"
            refine ⟨_, _, _, _, rfl, rfl, rfl, by simp; omega, ?_⟩
            exact fin_be (enc_snoc web ⟨"set", .str s, [a]⟩) (k web _ _ _ (web_set hw hl ho hs) (by omega) hlen' hb)

/-! ### kind -/
abbrev s_kind : Stmt := top 30
theorem sc_kind : FnScope ["_law_bag_here", "_law_name_here", "_law_ops"] ["_law_bag_here"] (defScope s_kind) := ⟨rfl, rfl, rfl, by decide +kernel, rfl, by decide +kernel, by decide +kernel⟩
theorem ok_kind {f : Addr} {fd : FuncData} (F : Fun K "_law_kind" "_law_kind" s_kind f fd) (B : Bln mg) (G : Gln w K mg)
    {f_take : Addr} {fd_take : FuncData} (g_take : FnOk P w K mg base CX0 1 f_take fd_take ["_law_bag_here", "_law_many"] (liftSp sp_take)) (m_take : mg "_law_take" = some (.ref f_take)) (k_take : PySem.W.keepIn K (.ref f_take) = true) (b_take : Binds K fd_take ["_law_bag_here", "_law_many"] [])
    {f_name : Addr} {fd_name : FuncData} (g_name : FnOk P w K mg base CX0 2 f_name fd_name ["_law_bag_here"] (liftSp sp_name)) (m_name : mg "_law_name" = some (.ref f_name)) (k_name : PySem.W.keepIn K (.ref f_name) = true) (b_name : Binds K fd_name ["_law_bag_here"] [])
    : FnOk P w K mg base CX0 3 f fd ["_law_bag_here"] (liftSp sp_kind) := by
  refine F.ok sc_kind (lift_len (by rintro us M Q h; obtain ⟨g, h, rfl, _⟩ := h; rfl)) (fun cdv A outer s H vs Q E hr h => ?_)
  refine def_ok ((ls_seq (ls_asg (le_op (lr_ix (K := K)) (le_tup (la_cons le_str (la_cons le_str (la_cons le_str (la_cons le_str (la_cons le_str (la_cons (le_callC (is := [0]) (dv := []) (fun _ => .nil) (la_cons (le_var (i := 0)) la_nil)) la_nil))))))) (le_callC (is := [0]) (dv := []) (fun _ => .nil) (la_cons (le_var (i := 0)) (la_cons le_int la_nil)))) (lg_name (i := 1)))
      (ls_seq (ls_asg (le_lst (la_cons le_str (la_cons le_str (la_cons le_str (la_cons le_str (la_cons le_str (la_cons le_str (la_cons le_str (la_cons le_str (la_cons le_str (la_cons le_str (la_cons le_str (la_cons le_str (la_cons le_str la_nil)))))))))))))) (lg_name (i := 2)))
      (ls_ret (le_if (lt_test (le_op (lr_in (K := K)) (le_var (i := 1)) (le_var (i := 2)))) (le_op (lr_add (K := K)) (le_var (i := 1)) le_str) (le_var (i := 1)))))))
    ((pss_cons (ps_set (i := 1) sc_kind.nd rfl (Or.inl rfl) (pe_ix (x_ix (K := K) rfl) (pe_tup (pa_cons pe_str (pa_cons pe_str (pa_cons pe_str (pa_cons pe_str (pa_cons pe_str (pa_cons (pe_call g_name (hr.mono (by omega)) (by rfl) m_name k_name b_name .nil pass0 (pa_cons (pv 0) pa_nil)) pa_nil))))))) (pe_call g_take (hr.mono (by omega)) (by rfl) m_take k_take b_take .nil pass0 (pa_cons (pv 0) (pa_cons pe_int pa_nil))) (fun _ _ => rfl)))
      (pss_cons (ps_set (i := 2) sc_kind.nd rfl (Or.inl rfl) (pe_lst (pa_cons pe_str (pa_cons pe_str (pa_cons pe_str (pa_cons pe_str (pa_cons pe_str (pa_cons pe_str (pa_cons pe_str (pa_cons pe_str (pa_cons pe_str (pa_cons pe_str (pa_cons pe_str (pa_cons pe_str (pa_cons pe_str pa_nil)))))))))))))))
      (pss_one (ps_ret (pe_ifExp (pt_cmpR (x_in (K := K) rfl (hu65 hr)) (pv 1) (pv 2) (by first | exact nomark _ | rfl)) (pe_op (x_add (K := K) rfl) (pv 1) pe_str) (pv 1)))))))
    h (fun us M Qu hd => ?_)
  obtain ⟨g, h, rfl, rfl, hb, k⟩ := hd
  walk_at "go"
  refine ⟨hb, fun s0 g1 h1 hs0 hb1 => ?_⟩
  walk_at "go"
  refine ⟨g1, h1, 6, rfl, rfl, hb1, by decide, by decide, fun i g2 h2 hi0 hi1 hb2 => ?_⟩
  obtain ⟨x, hx, hx0⟩ := kind_at s0 hs0 i hi0 hi1
  refine ⟨_, _, _, rfl, rfl, hx, ?_⟩
  walk_at "go"
  refine ⟨_, _, _, _, rfl, rfl, rfl, ⟨name_shaped hx0, by decide +kernel⟩, ?_⟩
  refine ⟨_, rfl, ?_⟩
  refine wite (fun he => ?_) (fun he => ?_)
  · have hin : x ∈ opNames := of_decide_eq_true ((any_name x opNames).symm.trans he)
    refine ⟨_, rfl, ?_⟩
    refine ⟨_, _, _, _, rfl, rfl, rfl, ?_, ?_⟩
    · have e : x.cps.toList.length ≤ 8 := hx0.2.1
      have hsl : 1000000 ≤ sizeLine := by decide
      have e2 : (Str.ofString "q").length = 1 := by decide +kernel
      have e3 : x.length ≤ 8 := e
      omega
    · refine fin_bag (k _ _ _ (kind_q hin) hb2)
  · have hin : x ∉ opNames := of_decide_eq_false ((any_name x opNames).symm.trans he)
    walk_at "go"
    exact fin_bag (k _ _ _ ⟨hx0, hin⟩ hb2)

/-! ### kinds -/
abbrev s_kinds : Stmt := top 31
theorem sc_kinds : FnScope ["_law_bag_here", "_law_found", "_law_turn", "_law_kind_here"] ["_law_bag_here"] (defScope s_kinds) := ⟨rfl, rfl, rfl, by decide +kernel, rfl, by decide +kernel, by decide +kernel⟩
theorem ok_kinds {f : Addr} {fd : FuncData} (F : Fun K "_law_kinds" "_law_kinds" s_kinds f fd) (B : Bln mg) (G : Gln w K mg)
    {f_kind : Addr} {fd_kind : FuncData} (g_kind : FnOk P w K mg base CX0 3 f_kind fd_kind ["_law_bag_here"] (liftSp sp_kind)) (m_kind : mg "_law_kind" = some (.ref f_kind)) (k_kind : PySem.W.keepIn K (.ref f_kind) = true) (b_kind : Binds K fd_kind ["_law_bag_here"] [])
    {f_take : Addr} {fd_take : FuncData} (g_take : FnOk P w K mg base CX0 1 f_take fd_take ["_law_bag_here", "_law_many"] (liftSp sp_take)) (m_take : mg "_law_take" = some (.ref f_take)) (k_take : PySem.W.keepIn K (.ref f_take) = true) (b_take : Binds K fd_take ["_law_bag_here", "_law_many"] [])
    : FnOk P w K mg base CX0 4 f fd ["_law_bag_here"] (liftSp sp_kinds) := by
  refine F.ok sc_kinds (lift_len (by rintro us M Q h; obtain ⟨g, h, rfl, _⟩ := h; rfl)) (fun cdv A outer s H vs Q E hr h => ?_)
  refine def_ok ((ls_seq (ls_asg (le_lstC la_nil) (lg_name (i := 1)))
      (ls_seq (ls_for (li_rng1 (la_cons (le_op (lr_add (K := K)) le_int (le_callC (is := [0]) (dv := []) (fun _ => .nil) (la_cons (le_var (i := 0)) (la_cons le_int la_nil)))) la_nil)) (lg_name (i := 2)) (ls_seq (ls_asg (le_callC (is := [0]) (dv := []) (fun _ => .nil) (la_cons (le_var (i := 0)) la_nil)) (lg_name (i := 3)))
      (ls_if (lt_test (le_op (lr_notIn (K := K)) (le_var (i := 3)) (le_var (i := 1)))) (ls_drop (le_bm (K := K) (ty_list (K := K)) lm_append (le_var (i := 1)) (la_cons (le_var (i := 3)) la_nil))) ls_next)))
      (ls_frz (i := 1) (ls_ret (le_var (i := 1)))))))
    ((pss_cons (ps_set (i := 1) sc_kinds.nd rfl (Or.inl rfl) (pe_lst pa_nil))
      (pss_cons (ps_for PassesOwn.never rfl (pi_range1 (by rfl) B.range_ (pa_cons (pe_op (x_add (K := K) rfl) pe_int (pe_call g_take (hr.mono (by omega)) (by rfl) m_take k_take b_take .nil pass0 (pa_cons (pv 0) (pa_cons pe_int pa_nil)))) pa_nil)) (pg_name (i := 2) sc_kinds.nd rfl (Or.inl rfl)) (pss_cons (ps_set (i := 3) sc_kinds.nd rfl (Or.inl rfl) (pe_call g_kind (hr.mono (by omega)) (by rfl) m_kind k_kind b_kind .nil pass0 (pa_cons (pv 0) pa_nil)))
      (pss_one (ps_if (pt_cmpR (x_notIn (K := K) rfl (hu65 hr)) (pv 3) (pv 1) (by first | exact nomark _ | rfl)) (pss_one (ps_expr (pe_bm PySem.F.plainAttrs_list PySem.F.slot_list_append PySem.F.type_list_append mt_append (pv 1) (pa_cons (pv 3) pa_nil)))) pss_nil))))
      (pss_one (ps_ret (pv 1))))))
    h (fun us M Qu hd => ?_)
  obtain ⟨g, h, rfl, rfl, hb, k⟩ := hd
  walk_at "go"
  refine ⟨g, h, 5, rfl, rfl, hb, by decide, by decide, fun i g1 h1 hi0 hi1 hb1 => ?_⟩
  walk_at "go"
  refine ⟨by omega, ?_⟩
  have hsl : 1000000 ≤ sizeLine := by decide
  refine wLoop_rec (fun us ρ M => ∃ (j : Int) (n : Nat) (ks : List Str) (g h : Int) (x2 x3 : Option U), us = intsU j n ∧ ks.length + n ≤ 5 ∧ (ks ≠ [] ∨ 1 ≤ n) ∧ (∀ k ∈ ks, kindOk k) ∧ bagOk g h ∧ ρ = [some (.p 0), some (.p 1), x2, x3] ∧ M = [bagO g h, .lst (ks.map PyData.str)]) ?_ ?_ _ _ _
    ⟨0, (1 + i).toNat, [], g1, h1, _, _, rfl, by simp; omega, .inr (by omega), fun k hk => (nomatch hk), hb1, rfl, rfl⟩
  · rintro ρ M ⟨j, n, ks, g2, h2, x2, x3, hu, hn, hne, hks, hb2, rfl, rfl⟩
    cases n with
    | succ n => rw [intsU_succ] at hu; cases hu
    | zero =>
      refine ⟨trivial, ?_⟩
      walk_at "go"
      refine fin_d (show 1 ≤ 2 from by decide) (fun o ho => ?_) (k ks g2 h2 ⟨hne.elim id fun e => absurd e (by decide), by omega, hks⟩ hb2)
      simp at ho
      subst ho
      exact trivial
  · rintro u us ih ρ M ⟨j, n, ks, g2, h2, x2, x3, hu, hn, hne, hks, hb2, rfl, rfl⟩
    cases n with
    | zero => cases hu
    | succ n =>
      rw [intsU_succ] at hu
      cases hu
      refine ⟨trivial, ?_⟩
      walk_at "go"
      refine ⟨hb2, fun s g3 h3 hs hb3 => ?_⟩
      walk_at "go"
      refine ⟨_, _, _, _, rfl, rfl, rfl, ⟨name_shaped hs.1, names_shaped hks⟩, ?_⟩
      refine ⟨_, rfl, ?_⟩
      refine wite (fun he => ?_) (fun he => ?_)
      · walk_at "go"
        refine ⟨.inl ⟨_, rfl⟩, ?_⟩
        walk_at "go"
        refine ⟨by rw [List.length_map]; omega, ?_⟩
        exact ih _ _ ⟨j + 1, n, ks ++ [s], g3, h3, _, _, rfl, by rw [List.length_append, List.length_singleton]; omega, .inl (by simp), fun x hx => (List.mem_append.mp hx).elim (hks x) fun e => by rw [List.mem_singleton.mp e]; exact hs, hb3, rfl, by rw [List.map_append]; rfl⟩
      · refine ih _ _ ⟨j + 1, n, ks, g3, h3, _, _, rfl, by omega, .inl ?_, hks, hb3, rfl, rfl⟩
        rintro rfl
        simp at he

/-! ### drawn -/
abbrev s_drawn : Stmt := top 32
theorem sc_drawn : FnScope ["_law_bag_here", "_law_kinds_here", "_law_deep", "_law_left", "_law_op", "_law_word_here", "_law_many", "_law_turn"] ["_law_bag_here", "_law_kinds_here", "_law_deep", "_law_left"] (defScope s_drawn) := ⟨rfl, rfl, rfl, by decide +kernel, rfl, by decide +kernel, by decide +kernel⟩
theorem ok_drawn {f : Addr} {fd : FuncData} (F : Fun K "_law_drawn" "_law_drawn" s_drawn f fd) (B : Bln mg) (G : Gln w K mg) (m_drawn : mg "_law_drawn" = some (.ref f)) (k_drawn : PySem.W.keepIn K (.ref f) = true) (b_drawn : Binds K fd ["_law_bag_here", "_law_kinds_here", "_law_deep", "_law_left"] [])
    {f_take : Addr} {fd_take : FuncData} (g_take : FnOk P w K mg base CX0 1 f_take fd_take ["_law_bag_here", "_law_many"] (liftSp sp_take)) (m_take : mg "_law_take" = some (.ref f_take)) (k_take : PySem.W.keepIn K (.ref f_take) = true) (b_take : Binds K fd_take ["_law_bag_here", "_law_many"] [])
    {f_word : Addr} {fd_word : FuncData} (g_word : FnOk P w K mg base CX0 2 f_word fd_word ["_law_bag_here"] (liftSp sp_word)) (m_word : mg "_law_word" = some (.ref f_word)) (k_word : PySem.W.keepIn K (.ref f_word) = true) (b_word : Binds K fd_word ["_law_bag_here"] [])
    : ∀ lv : Nat, FnOk P w K mg base CX0 (lv + 3) f fd ["_law_bag_here", "_law_kinds_here", "_law_deep", "_law_left"] (liftSp (sp_drawn lv)) := by
  intro lv
  induction lv with
  | zero =>
    refine ⟨lift_len (by rintro us M Q h; obtain ⟨g, h, ks, deep, left, rfl, _⟩ := h; rfl), fun A outer s H args us vs Q E _ _ _ _ h => ?_⟩
    obtain ⟨_, M, us, Qu, _, _, h, _⟩ := h
    obtain ⟨g, h, ks, deep, left, _, _, _, _, hd, _⟩ := h; exact absurd hd (Nat.not_lt_zero _)
  | succ lv g_drawn =>
  refine F.ok sc_drawn (lift_len (by rintro us M Q h; obtain ⟨g, h, ks, deep, left, rfl, _⟩ := h; rfl)) (fun cdv A outer s H vs Q E hr h => ?_)
  refine def_ok ((ls_seq (ls_if (lt_or (lt_test (le_op (lr_eq (K := K)) (le_var (i := 2)) le_int)) (lt_or (lt_test (le_op (lr_eq (K := K)) (le_op (lr_ix (K := K)) (le_var (i := 3)) le_int) le_int)) (lt_test (le_op (lr_eq (K := K)) (le_callC (is := [0]) (dv := []) (fun _ => .nil) (la_cons (le_var (i := 0)) (la_cons le_int la_nil))) le_int)))) (ls_ret (le_op (lr_ix (K := K)) (le_var (i := 1)) (le_callC (is := [0]) (dv := []) (fun _ => .nil) (la_cons (le_var (i := 0)) (la_cons (le_cb (lc_len (K := K)) (la_cons (le_var (i := 1)) la_nil)) la_nil))))) ls_next)
      (ls_cut (ls_augS (le_var (i := 3)) le_int (lr_ixL (K := K)) le_int (lr_ipI lr_sub) lset_list)
      (ls_seq (ls_asg (le_op (lr_ix (K := K)) (le_tup (la_cons le_str (la_cons le_str (la_cons le_str (la_cons le_str (la_cons le_str (la_cons le_str (la_cons le_str (la_cons le_str (la_cons le_str (la_cons le_str (la_cons le_str (la_cons le_str la_nil))))))))))))) (le_callC (is := [0]) (dv := []) (fun _ => .nil) (la_cons (le_var (i := 0)) (la_cons le_int la_nil)))) (lg_name (i := 4)))
      (ls_seq (ls_if (lt_test (le_op (lr_eq (K := K)) (le_var (i := 4)) le_str)) (ls_seq (ls_asg (le_callC (is := [0]) (dv := []) (fun _ => .nil) (la_cons (le_var (i := 0)) la_nil)) (lg_name (i := 5)))
      (ls_ret (le_op (lr_ix (K := K)) (le_lst (la_cons (le_tup (la_cons le_str la_nil)) (la_cons (le_tup (la_cons le_str (la_cons le_str (la_cons (le_var (i := 5)) la_nil)))) (la_cons (le_tup (la_cons le_str (la_cons le_str (la_cons (le_cb lc_max2 (la_cons le_int (la_cons (le_var (i := 5)) la_nil))) la_nil)))) la_nil)))) (le_callC (is := [0]) (dv := []) (fun _ => .nil) (la_cons (le_var (i := 0)) (la_cons le_int la_nil)))))) ls_next)
      (ls_seq (ls_if (lt_test (le_op (lr_eq (K := K)) (le_var (i := 4)) le_str)) (ls_ret (le_tup (la_cons le_str la_nil))) ls_next)
      (ls_cut (ls_asg (le_if (lt_test (le_op (lr_in (K := K)) (le_var (i := 4)) (le_tup (la_cons le_str (la_cons le_str (la_cons le_str la_nil)))))) le_int le_int) (lg_name (i := 6)))
      (ls_ret (le_cb (lc_tupOf (K := K)) (la_cons (le_op (lr_add (K := K)) (le_lst (la_cons (le_var (i := 4)) la_nil)) (le_lc (li_rng1 (la_cons (le_var (i := 6)) la_nil)) (lgv_name (i := 7) (by decide)) lt_yes (le_callC (is := [0, 1]) (dv := []) (fun _ => .nil) (la_cons (le_var (i := 0)) (la_cons (le_var (i := 1)) (la_cons (le_op lr_sub (le_var (i := 2)) le_int) (la_cons (le_var (i := 3)) la_nil))))))) la_nil))))))))))
    ((pss_cons (ps_if (PW.pt (pw_or (pt_cmpR (x_eq (K := K) rfl (hu64 hr)) (pv 2) pe_int (by first | exact nomark _ | rfl)) (pw_or (pt_cmpR (x_eq (K := K) rfl (hu64 hr)) (pe_ix (x_ix (K := K) rfl) (pv 3) pe_int (fun _ _ => rfl)) pe_int (by first | exact nomark _ | rfl)) (pw_or1 (pt_cmpR (x_eq (K := K) rfl (hu64 hr)) (pe_call g_take (hr.mono (by omega)) (by rfl) m_take k_take b_take .nil pass0 (pa_cons (pv 0) (pa_cons pe_int pa_nil))) pe_int (by first | exact nomark _ | rfl)))))) (pss_one (ps_ret (pe_ix (x_ix (K := K) rfl) (pv 1) (pe_call g_take (hr.mono (by omega)) (by rfl) m_take k_take b_take .nil pass0 (pa_cons (pv 0) (pa_cons (pe_callB (x_len (K := K) rfl) (by rfl) B.len_ bt_len (pa_cons (pv 1) pa_nil)) pa_nil))) (fun _ _ => rfl)))) pss_nil)
      (pss_cons (ps_augS (pv 3) pe_int (x_getL (K := K) rfl) pe_int ip_sub set_list)
      (pss_cons (ps_set (i := 4) sc_drawn.nd rfl (Or.inl rfl) (pe_ix (x_ix (K := K) rfl) (pe_tup (pa_cons pe_str (pa_cons pe_str (pa_cons pe_str (pa_cons pe_str (pa_cons pe_str (pa_cons pe_str (pa_cons pe_str (pa_cons pe_str (pa_cons pe_str (pa_cons pe_str (pa_cons pe_str (pa_cons pe_str pa_nil))))))))))))) (pe_call g_take (hr.mono (by omega)) (by rfl) m_take k_take b_take .nil pass0 (pa_cons (pv 0) (pa_cons pe_int pa_nil))) (fun _ _ => rfl)))
      (pss_cons (ps_if (pt_cmpR (x_eq (K := K) rfl (hu64 hr)) (pv 4) pe_str (by first | exact nomark _ | rfl)) (pss_cons (ps_set (i := 5) sc_drawn.nd rfl (Or.inl rfl) (pe_call g_word (hr.mono (by omega)) (by rfl) m_word k_word b_word .nil pass0 (pa_cons (pv 0) pa_nil)))
      (pss_one (ps_ret (pe_ix (x_ix (K := K) rfl) (pe_lst (pa_cons (pe_tup (pa_cons pe_str pa_nil)) (pa_cons (pe_tup (pa_cons pe_str (pa_cons pe_str (pa_cons (pv 5) pa_nil)))) (pa_cons (pe_tup (pa_cons pe_str (pa_cons pe_str (pa_cons (pe_callB (call_max2 rfl) (by rfl) B.max_ bt_max (pa_cons pe_int (pa_cons (pv 5) pa_nil))) pa_nil)))) pa_nil)))) (pe_call g_take (hr.mono (by omega)) (by rfl) m_take k_take b_take .nil pass0 (pa_cons (pv 0) (pa_cons pe_int pa_nil))) (fun _ _ => rfl))))) pss_nil)
      (pss_cons (ps_if (pt_cmpR (x_eq (K := K) rfl (hu64 hr)) (pv 4) pe_str (by first | exact nomark _ | rfl)) (pss_one (ps_ret (pe_tup (pa_cons pe_str pa_nil)))) pss_nil)
      (pss_cons (ps_set (i := 6) sc_drawn.nd rfl (Or.inl rfl) (pe_ifExp (pt_cmpR (x_in (K := K) rfl (hu65 hr)) (pv 4) (pe_tup (pa_cons pe_str (pa_cons pe_str (pa_cons pe_str pa_nil)))) (by first | exact nomark _ | rfl)) pe_int pe_int))
      (pss_one (ps_ret (pe_callTy (x_tupOf (K := K) rfl) (by rfl) B.tuple_ bt_tuple (pa_cons (pe_op (x_add (K := K) rfl) (pe_lst (pa_cons (pv 4) pa_nil)) (pe_lc (own := [("_law_turn", 7)]) rfl sc_drawn.nd (pi_range1 (by rfl) B.range_ (pa_cons (pv 6) pa_nil)) (blkOk_by (N := ["_law_bag_here", "_law_kinds_here", "_law_deep", "_law_left", "_law_op", "_law_word_here", "_law_many", "_law_turn"]) (sc := defScope s_drawn) (by decide +kernel)) (fun _ _ _ _ _ => (pg_name (i := 7) sc_drawn.nd rfl (Or.inl rfl))) (fun _ _ _ _ _ => pts_nil) (fun _ _ _ _ _ => (pe_call g_drawn (hr.mono (by omega)) (by rfl) m_drawn k_drawn b_drawn .nil pass0 (pa_cons (pv 0) (pa_cons (pv 1) (pa_cons (pe_op op_sub (pv 2) pe_int) (pa_cons (pv 3) pa_nil)))))))) pa_nil)))))))))))
    h (fun us M Qu hd => ?_)
  obtain ⟨g, h, ks, deep, left, rfl, rfl, hb, hks, hd, hl, k⟩ := hd
  skip
  have hsl : 1000000 ≤ sizeLine := by decide
  have hk5 := hks.2.1
  have hkp : 0 < ks.length := List.length_pos_iff.mpr hks.1
  skip
  walk_at "go"
  rw [eqv_i]
  refine witeD (fun _ => ?_) (fun hd0 => ?_)
  · walk_at "go"
    (walk_at "go"; refine ⟨_, _, _, rfl, rfl, hb, by first | decide | omega | (simp only [List.length_map, len_kids]; omega) | (simp <;> omega), by first | decide | omega | (simp only [List.length_map, len_kids]; omega) | (simp <;> omega), fun r g h r_0 r_1 hb => ?_⟩; rw [List.length_map] at r_1; obtain ⟨kd, hk1, hk2⟩ := kind_at_list ks r r_0 r_1; refine ⟨_, _, _, rfl, rfl, ix_l hk2, ?_⟩; exact fin_bl rfl (k (.kind kd) _ _ _ (hks.2.2 kd hk1) (by simp [Pat.depth]) (Nat.zero_add _) hb))
  obtain ⟨deep, rfl⟩ : ∃ d, deep = d + 1 := ⟨deep - 1, by omega⟩
  walk_at "go"
  rw [eqv_i]
  refine witeD (fun _ => ?_) (fun hl0 => ?_)
  · walk_at "go"
    (walk_at "go"; refine ⟨_, _, _, rfl, rfl, hb, by first | decide | omega | (simp only [List.length_map, len_kids]; omega) | (simp <;> omega), by first | decide | omega | (simp only [List.length_map, len_kids]; omega) | (simp <;> omega), fun r g h r_0 r_1 hb => ?_⟩; rw [List.length_map] at r_1; obtain ⟨kd, hk1, hk2⟩ := kind_at_list ks r r_0 r_1; refine ⟨_, _, _, rfl, rfl, ix_l hk2, ?_⟩; exact fin_bl rfl (k (.kind kd) _ _ _ (hks.2.2 kd hk1) (by simp [Pat.depth]) (Nat.zero_add _) hb))
  obtain ⟨left, rfl⟩ : ∃ d, left = d + 1 := ⟨left - 1, by omega⟩
  walk_at "go"
  refine ⟨_, _, 4, rfl, rfl, hb, by first | decide | omega | (simp only [List.length_map, len_kids]; omega) | (simp <;> omega), by first | decide | omega | (simp only [List.length_map, len_kids]; omega) | (simp <;> omega), fun r g h r_0 r_1 hb => ?_⟩
  walk_at "go"
  rw [eqv_i]
  refine witeD (fun _ => ?_) (fun _ => ?_)
  · walk_at "go"
    (walk_at "go"; refine ⟨_, _, _, rfl, rfl, hb, by first | decide | omega | (simp only [List.length_map, len_kids]; omega) | (simp <;> omega), by first | decide | omega | (simp only [List.length_map, len_kids]; omega) | (simp <;> omega), fun r g h r_0 r_1 hb => ?_⟩; rw [List.length_map] at r_1; obtain ⟨kd, hk1, hk2⟩ := kind_at_list ks r r_0 r_1; refine ⟨_, _, _, rfl, rfl, ix_l hk2, ?_⟩; exact fin_bl rfl (k (.kind kd) _ _ _ (hks.2.2 kd hk1) (by simp [Pat.depth]) (Nat.zero_add _) hb))
  walk_at "go"
  refine ⟨(fun ρ M => ∃ (g h : Int) (x_op x_word_here x_many x_turn : Option U), (bagOk g h) ∧ ρ = [some (.p 0), some (.d (.list (ks.map PyData.str))), some (.d (.int (((deep + 1 : Nat) : Int)))), some (.p 1), x_op, x_word_here, x_many, x_turn] ∧ M = [bagO g h, leftO (left : Int)]), ?_, ?_⟩
  · walk_at "go"
    refine ⟨_, _, _, _, _, rfl, rfl, rfl, rfl, rfl, ?_⟩
    refine ⟨_, _, _, _, _, _, hb, rfl, ?_⟩
    show [_, Ob.lst [.int (((left + 1 : Nat) : Int) - 1)]] = _
    rw [show ((left + 1 : Nat) : Int) - 1 = (left : Int) by omega]; rfl
  rintro _ _ ⟨g, h, x_op, x_word_here, x_many, x_turn, hb, rfl, rfl⟩
  walk_at "go"
  refine ⟨_, _, 12, rfl, rfl, hb, by first | decide | omega | (simp only [List.length_map, len_kids]; omega) | (simp <;> omega), by first | decide | omega | (simp only [List.length_map, len_kids]; omega) | (simp <;> omega), fun r g h r_0 r_1 hb => ?_⟩
  obtain ⟨op, hop, hop2⟩ := op_at2 r r_0 r_1
  refine ⟨_, _, _, rfl, rfl, ix_t hop, ?_⟩
  walk_at "go"
  refine wseq (fun e => ?_) (fun e1 => ?_)
  · walk_at "go"
    refine ⟨hb, fun w g h w0 w1 hb => ?_⟩
    walk_at "go"
    refine ⟨_, _, 3, rfl, rfl, hb, by first | decide | omega | (simp only [List.length_map, len_kids]; omega) | (simp <;> omega), by first | decide | omega | (simp only [List.length_map, len_kids]; omega) | (simp <;> omega), fun t g h t_0 t_1 hb => ?_⟩
    have ht : t = 0 ∨ t = 1 ∨ t = 2 := by omega
    rcases ht with rfl | rfl | rfl
    · walk_at "go"
      exact fin_bl rfl (k .num _ _ left trivial (by simp [Pat.depth]) (by simp [Pat.ops]; omega) hb)
    · walk_at "go"
      exact fin_bl rfl (k (.is_ w) _ _ left ⟨w0, w1⟩ (by simp [Pat.depth]) (by simp [Pat.ops]; omega) hb)
    · walk_at "go"
      exact fin_bl rfl (k (.lss (if w > 1 then w else 1)) _ _ left (by constructor <;> split <;> omega) (by simp [Pat.depth]) (by simp [Pat.ops]; omega) hb)
  walk_at "go"
  refine wseq (fun e => ?_) (fun e2 => ?_)
  · walk_at "go"
    exact fin_bl rfl (k .var _ _ left trivial (by simp [Pat.depth]) (by simp [Pat.ops]; omega) hb)
  walk_at "go"
  refine ⟨(fun ρ M => ∃ (many : Nat) (x_word_here x_turn : Option U), ((op ∈ ops1 ∧ many = 1) ∨ (op ∈ ops2 ∧ many = 2)) ∧ ρ = [some (.p 0), some (.d (.list (ks.map PyData.str))), some (.d (.int (((deep + 1 : Nat) : Int)))), some (.p 1), some (.d (.str (op))), x_word_here, some (.d (.int ((many : Int)))), x_turn] ∧ M = [bagO g h, leftO (left : Int)]), ?_, ?_⟩
  · walk_at "go"
    refine ⟨_, _, _, _, rfl, rfl, rfl, ⟨rfl, rfl⟩, ?_⟩
    refine ⟨_, rfl, ?_⟩
    refine wite (fun he => ?_) (fun he => ?_)
    · have hin : op ∈ ops1 := of_decide_eq_true ((any_name op ops1).symm.trans he)
      walk_at "go"
      exact ⟨1, _, _, .inl ⟨hin, rfl⟩, rfl, rfl⟩
    · have hin : op ∉ ops1 := of_decide_eq_false ((any_name op ops1).symm.trans he)
      walk_at "go"
      refine ⟨2, _, _, .inr ⟨?_, rfl⟩, rfl, rfl⟩
      rcases hop2 with h | h | h | h
      · exact absurd h e1
      · exact absurd h e2
      · exact absurd h hin
      · exact h
  · rintro _ _ ⟨many, x_word_here, x_turn, hm, rfl, rfl⟩
    have hmany : many = 1 ∨ many = 2 := by rcases hm with ⟨_, h⟩ | ⟨_, h⟩ <;> simp [h]
    walk_at "go"
    refine ⟨by omega, ?_⟩
    refine wLcGo_rec (fun us acc M => ∃ (ps : List Pat) (g h : Int) (left' : Nat), (acc = (ps.map Pat.enc).map U.d) ∧ (ps.length + us.length = many) ∧ (Pat.goods ps) ∧ (Pat.depths ps ≤ deep + 1) ∧ (Pat.opss ps + left' = left) ∧ (bagOk g h) ∧ M = [bagO g h, leftO (left' : Int)]) ?_ ?_ _ _ _ ⟨[], g, h, left, rfl, by simp [intsU], trivial, Nat.zero_le _, Nat.zero_add _, hb, rfl⟩
    · rintro acc M ⟨ps, g, h, left', ha, hl, hgd, hdp, hop, hb, rfl⟩
      refine ⟨trivial, _, by rw [ha]; exact dats_map _, ?_⟩
      have hl' : ps.length = many := by simpa using hl
      have hpl : ps.length ≤ 2 := by omega
      walk_at "go"
      refine ⟨_, _, _, _, rfl, rfl, rfl, by simp; omega, ?_⟩
      walk_at "go"
      refine fin_bl ?_ (k (.op op ps) _ _ left' ⟨?_, hgd⟩ (by simp only [Pat.depth]; omega) (by simp only [Pat.ops]; omega) hb)
      · rw [Pat.enc, encs_map]; rfl
      · rcases hm with ⟨h1, h2⟩ | ⟨h1, h2⟩
        · exact .inl ⟨h1, by omega⟩
        · exact .inr ⟨h1, by omega⟩
    · rintro u us ih acc M ⟨ps, g, h, left', ha, hl, hgd, hdp, hop, hb, rfl⟩
      refine ⟨trivial, ?_⟩
      walk_at "go"
      refine ⟨_, _, ks, deep, left', ?_, rfl, hb, hks, by omega, by omega, fun p g h left'' hp1 hp2 hp3 hb => ?_⟩
      · show [_, _, U.d (.int (((deep + 1 : Nat) : Int) - 1)), _] = _
        rw [show ((deep + 1 : Nat) : Int) - 1 = (deep : Int) by omega]; rfl
      have hl' : ps.length + us.length + 1 = many := by simp at hl; omega
      refine ⟨by rw [ha, List.length_map, List.length_map]; omega, ?_⟩
      refine ih _ _ ⟨ps ++ [p], g, h, left'', by rw [ha, List.map_append, List.map_append]; rfl, by simp; omega, ?_, ?_, ?_, hb, rfl⟩
      · rw [goods_iff] at hgd ⊢
        intro x hx
        rcases List.mem_append.mp hx with hx | hx
        · exact hgd x hx
        · rw [List.mem_singleton.mp hx]; exact hp1
      · rw [depths_snoc]; omega
      · rw [opss_snoc]; omega

/-! ### pattern -/
abbrev s_pattern : Stmt := top 33
theorem sc_pattern : FnScope ["_law_bag_here", "_law_kinds_here", "_law_left", "_law_way"] ["_law_bag_here", "_law_kinds_here"] (defScope s_pattern) := ⟨rfl, rfl, rfl, by decide +kernel, rfl, by decide +kernel, by decide +kernel⟩
theorem ok_pattern {f : Addr} {fd : FuncData} (F : Fun K "_law_pattern" "_law_pattern" s_pattern f fd) (B : Bln mg) (G : Gln w K mg)
    {f_take : Addr} {fd_take : FuncData} (g_take : FnOk P w K mg base CX0 1 f_take fd_take ["_law_bag_here", "_law_many"] (liftSp sp_take)) (m_take : mg "_law_take" = some (.ref f_take)) (k_take : PySem.W.keepIn K (.ref f_take) = true) (b_take : Binds K fd_take ["_law_bag_here", "_law_many"] [])
    {f_drawn : Addr} {fd_drawn : FuncData} (g_drawn : FnOk P w K mg base CX0 9 f_drawn fd_drawn ["_law_bag_here", "_law_kinds_here", "_law_deep", "_law_left"] (liftSp (sp_drawn 6))) (m_drawn : mg "_law_drawn" = some (.ref f_drawn)) (k_drawn : PySem.W.keepIn K (.ref f_drawn) = true) (b_drawn : Binds K fd_drawn ["_law_bag_here", "_law_kinds_here", "_law_deep", "_law_left"] [])
    : FnOk P w K mg base CX0 10 f fd ["_law_bag_here", "_law_kinds_here"] (liftSp sp_pattern) := by
  refine F.ok sc_pattern (lift_len (by rintro us M Q h; obtain ⟨g, h, ks, rfl, _⟩ := h; rfl)) (fun cdv A outer s H vs Q E hr h => ?_)
  refine def_ok ((ls_seq (ls_asg (le_lstC (la_cons le_int la_nil)) (lg_name (i := 2)))
      (ls_seq (ls_asg (le_callC (is := [0]) (dv := []) (fun _ => .nil) (la_cons (le_var (i := 0)) (la_cons le_int la_nil))) (lg_name (i := 3)))
      (ls_seq (ls_if (lt_test (le_op (lr_eq (K := K)) (le_var (i := 3)) le_int)) (ls_seq (ls_augS (le_var (i := 2)) le_int (lr_ixL (K := K)) le_int (lr_ipI lr_sub) lset_list)
      (ls_ret (le_tup (la_cons le_str (la_cons (le_callC (is := [0, 1]) (dv := []) (fun _ => .nil) (la_cons (le_var (i := 0)) (la_cons (le_var (i := 1)) (la_cons le_int (la_cons (le_var (i := 2)) la_nil))))) la_nil))))) ls_next)
      (ls_seq (ls_if (lt_test (le_op (lr_eq (K := K)) (le_var (i := 3)) le_int)) (ls_seq (ls_augS (le_var (i := 2)) le_int (lr_ixL (K := K)) le_int (lr_ipI lr_sub) lset_list)
      (ls_ret (le_tup (la_cons le_str (la_cons (le_callC (is := [0, 1]) (dv := []) (fun _ => .nil) (la_cons (le_var (i := 0)) (la_cons (le_var (i := 1)) (la_cons le_int (la_cons (le_var (i := 2)) la_nil))))) (la_cons (le_callC (is := [0, 1]) (dv := []) (fun _ => .nil) (la_cons (le_var (i := 0)) (la_cons (le_var (i := 1)) (la_cons le_int (la_cons (le_var (i := 2)) la_nil))))) la_nil)))))) ls_next)
      (ls_ret (le_callC (is := [0, 1]) (dv := []) (fun _ => .nil) (la_cons (le_var (i := 0)) (la_cons (le_var (i := 1)) (la_cons le_int (la_cons (le_var (i := 2)) la_nil)))))))))))
    ((pss_cons (ps_set (i := 2) sc_pattern.nd rfl (Or.inl rfl) (pe_lst (pa_cons pe_int pa_nil)))
      (pss_cons (ps_set (i := 3) sc_pattern.nd rfl (Or.inl rfl) (pe_call g_take (hr.mono (by omega)) (by rfl) m_take k_take b_take .nil pass0 (pa_cons (pv 0) (pa_cons pe_int pa_nil))))
      (pss_cons (ps_if (pt_cmpR (x_eq (K := K) rfl (hu64 hr)) (pv 3) pe_int (by first | exact nomark _ | rfl)) (pss_cons (ps_augS (pv 2) pe_int (x_getL (K := K) rfl) pe_int ip_sub set_list)
      (pss_one (ps_ret (pe_tup (pa_cons pe_str (pa_cons (pe_call g_drawn (hr.mono (by omega)) (by rfl) m_drawn k_drawn b_drawn .nil pass0 (pa_cons (pv 0) (pa_cons (pv 1) (pa_cons pe_int (pa_cons (pv 2) pa_nil))))) pa_nil)))))) pss_nil)
      (pss_cons (ps_if (pt_cmpR (x_eq (K := K) rfl (hu64 hr)) (pv 3) pe_int (by first | exact nomark _ | rfl)) (pss_cons (ps_augS (pv 2) pe_int (x_getL (K := K) rfl) pe_int ip_sub set_list)
      (pss_one (ps_ret (pe_tup (pa_cons pe_str (pa_cons (pe_call g_drawn (hr.mono (by omega)) (by rfl) m_drawn k_drawn b_drawn .nil pass0 (pa_cons (pv 0) (pa_cons (pv 1) (pa_cons pe_int (pa_cons (pv 2) pa_nil))))) (pa_cons (pe_call g_drawn (hr.mono (by omega)) (by rfl) m_drawn k_drawn b_drawn .nil pass0 (pa_cons (pv 0) (pa_cons (pv 1) (pa_cons pe_int (pa_cons (pv 2) pa_nil))))) pa_nil))))))) pss_nil)
      (pss_one (ps_ret (pe_call g_drawn (hr.mono (by omega)) (by rfl) m_drawn k_drawn b_drawn .nil pass0 (pa_cons (pv 0) (pa_cons (pv 1) (pa_cons pe_int (pa_cons (pv 2) pa_nil))))))))))))
    h (fun us M Qu hd => ?_)
  obtain ⟨g, h, ks, rfl, rfl, hb, hks, k⟩ := hd
  have e7 : Ob.lst ([PyData.int 8].set 0 (.int (8 - 1))) = leftO ((7 : Nat) : Int) := by rfl
  walk_at "go"
  refine ⟨_, _, 6, rfl, rfl, hb, by first | decide | omega | (simp only [List.length_map, len_kids]; omega) | (simp <;> omega), by first | decide | omega | (simp only [List.length_map, len_kids]; omega) | (simp <;> omega), fun r g h r_0 r_1 hb => ?_⟩
  walk_at "go"
  rw [eqv_i]
  refine witeD (fun _ => ?_) (fun _ => ?_)
  · walk_at "go"
    refine ⟨_, _, _, _, _, rfl, rfl, rfl, rfl, rfl, ?_⟩
    walk_at "go"
    refine ⟨_, _, ks, 3, 7, rfl, rfl, hb, hks, by omega, by omega, fun p g h left hp1 hp2 hp3 hb => ?_⟩
    walk_at "go"
    exact fin_be (z := (Pat.op "set" [p]).enc) rfl (k (.op "set" [p]) _ _ ⟨⟨.inl ⟨rfl, rfl⟩, hp1, trivial⟩, by simp only [Pat.depth, Pat.depths]; omega, by simp only [Pat.ops, Pat.opss]; omega⟩ hb)
  walk_at "go"
  rw [eqv_i]
  refine witeD (fun _ => ?_) (fun _ => ?_)
  · walk_at "go"
    refine ⟨_, _, _, _, _, rfl, rfl, rfl, rfl, rfl, ?_⟩
    walk_at "go"
    refine ⟨_, _, ks, 3, 7, rfl, rfl, hb, hks, by omega, by omega, fun p g h left hp1 hp2 hp3 hb => ?_⟩
    walk_at "go"
    refine ⟨_, _, ks, 3, left, rfl, rfl, hb, hks, by omega, by omega, fun q g h left' hq1 hq2 hq3 hb => ?_⟩
    walk_at "go"
    exact fin_be (z := (Pat.op "put" [p, q]).enc) rfl (k (.op "put" [p, q]) _ _ ⟨⟨.inr (.inl ⟨rfl, rfl⟩), hp1, hq1, trivial⟩, by simp only [Pat.depth, Pat.depths]; omega, by simp only [Pat.ops, Pat.opss]; omega⟩ hb)
  walk_at "go"
  refine ⟨_, _, ks, 4, 8, rfl, rfl, hb, hks, by omega, by omega, fun p g h left hp1 hp2 hp3 hb => ?_⟩
  exact fin_be (z := p.enc) rfl (k p _ _ ⟨top_of_good hp1, by omega, by omega⟩ hb)

/-! ### titles -/
abbrev s_titles : Stmt := top 35
theorem sc_titles : FnScope ["_law_bag_here", "_law_many", "_law_k"] ["_law_bag_here", "_law_many"] (defScope s_titles) := ⟨rfl, rfl, rfl, by decide +kernel, rfl, by decide +kernel, by decide +kernel⟩
theorem ok_titles {f : Addr} {fd : FuncData} (F : Fun K "_law_titles" "_law_titles" s_titles f fd) (B : Bln mg) (G : Gln w K mg)
    {f_name : Addr} {fd_name : FuncData} (g_name : FnOk P w K mg base CX0 2 f_name fd_name ["_law_bag_here"] (liftSp sp_name)) (m_name : mg "_law_name" = some (.ref f_name)) (k_name : PySem.W.keepIn K (.ref f_name) = true) (b_name : Binds K fd_name ["_law_bag_here"] [])
    : FnOk P w K mg base CX0 3 f fd ["_law_bag_here", "_law_many"] (liftSp sp_titles) := by
  refine F.ok sc_titles (lift_len (by rintro us M Q h; obtain ⟨g, h, many, rfl, _⟩ := h; rfl)) (fun cdv A outer s H vs Q E hr h => ?_)
  refine def_ok ((ls_ret (le_lc (li_rng1 (la_cons (le_var (i := 1)) la_nil)) (lgv_name (i := 2) (by decide)) lt_yes (le_op (lr_add (K := K)) (le_sl (K := K) (le_callC (is := [0]) (dv := []) (fun _ => .nil) (la_cons (le_var (i := 0)) la_nil)) lo_none (lo_some le_int)) (le_op (lr_ix (K := K)) le_str (le_var (i := 2)))))))
    ((pss_one (ps_ret (pe_lc (own := [("_law_k", 2)]) rfl sc_titles.nd (pi_range1 (by rfl) B.range_ (pa_cons (pv 1) pa_nil)) (blkOk_by (N := ["_law_bag_here", "_law_many", "_law_k"]) (sc := defScope s_titles) (by decide +kernel)) (fun _ _ _ _ _ => (pg_name (i := 2) sc_titles.nd rfl (Or.inl rfl))) (fun _ _ _ _ _ => pts_nil) (fun _ _ _ _ _ => (pe_op (x_add (K := K) rfl) (pe_slice (x_sl (K := K) rfl) (pe_call g_name (hr.mono (by omega)) (by rfl) m_name k_name b_name .nil pass0 (pa_cons (pv 0) pa_nil)) po_none (po_some pe_int)) (pe_ix (x_ix (K := K) rfl) pe_str (pv 2) (fun _ _ => rfl))))))))
    h (fun us M Qu hd => ?_)
  obtain ⟨g, h, many, rfl, rfl, hb, hm, k⟩ := hd
  have hsl : 1000000 ≤ sizeLine := by decide
  skip
  walk_at "go"
  refine ⟨by omega, ?_⟩
  refine wLcGo_rec (fun us acc M => ∃ (ns : List Str) (g h : Int) (n : Nat), (acc = (ns.map PyData.str).map U.d) ∧ (us = intsU (ns.length : Int) n) ∧ (ns.length + n = many) ∧ (TitlesOk ns) ∧ (bagOk g h) ∧ M = [bagO g h]) ?_ ?_ _ _ _ ⟨[], g, h, many, rfl, by rw [Int.toNat_natCast]; rfl, by simp, fun i s h => by simp at h, hb, rfl⟩
  · rintro acc M ⟨ns, g, h, n, ha, hu, hl, ht, hb, rfl⟩
    cases n with
    | succ n => rw [intsU_succ] at hu; cases hu
    | zero =>
      refine ⟨trivial, _, by rw [ha]; exact dats_map _, ?_⟩
      exact fin_b (k ns _ _ ht (by omega) hb)
  · rintro u us ih acc M ⟨ns, g, h, n, ha, hu, hl, ht, hb, rfl⟩
    cases n with
    | zero => cases hu
    | succ n =>
      rw [intsU_succ] at hu
      cases hu
      refine ⟨trivial, ?_⟩
      walk_at "go"
      refine ⟨hb, fun s g h hs hb => ?_⟩
      walk_at "go"
      refine ⟨_, _, _, rfl, rfl, (by have := hs.2.1; show s.cps.size ≤ _; rw [← Array.length_toList]; omega), ?_⟩
      walk_at "go"
      refine ⟨_, _, _, rfl, rfl, ⟨97 + ns.length, by decide, letter_at2 _ (by omega), rfl⟩, ?_⟩
      obtain ⟨q1, q2, q3⟩ := cut7_app hs (97 + ns.length) (by omega) (by omega)
      refine ⟨_, _, _, _, rfl, rfl, rfl, by show (cutS s none (some 7)).length + 1 ≤ _; omega, ?_⟩
      refine ⟨by rw [ha, List.length_map, List.length_map]; omega, ?_⟩
      exact ih _ _ ⟨ns ++ [_], _, _, n, by rw [ha, List.map_append, List.map_append]; rfl, by rw [List.length_append, List.length_singleton]; rfl, by rw [List.length_append, List.length_singleton]; omega, titles_snoc ht q1 q2, hb, rfl⟩

/-! ### rule -/
abbrev s_rule : Stmt := top 34
theorem sc_rule : FnScope ["_law_bag_here", "_law_name_here", "_law_kinds_here", "_law_pattern_here", "_law_kind_here", "_law_dear"] ["_law_bag_here", "_law_name_here", "_law_kinds_here", "_law_pattern_here"] (defScope s_rule) := ⟨rfl, rfl, rfl, by decide +kernel, rfl, by decide +kernel, by decide +kernel⟩
theorem ok_rule {f : Addr} {fd : FuncData} (F : Fun K "_law_rule" "_law_rule" s_rule f fd) (B : Bln mg) (G : Gln w K mg)
    {f_take : Addr} {fd_take : FuncData} (g_take : FnOk P w K mg base CX0 1 f_take fd_take ["_law_bag_here", "_law_many"] (liftSp sp_take)) (m_take : mg "_law_take" = some (.ref f_take)) (k_take : PySem.W.keepIn K (.ref f_take) = true) (b_take : Binds K fd_take ["_law_bag_here", "_law_many"] [])
    : FnOk P w K mg base CX0 2 f fd ["_law_bag_here", "_law_name_here", "_law_kinds_here", "_law_pattern_here"] (liftSp sp_rule) := by
  refine F.ok sc_rule (lift_len (by rintro us M Q h; obtain ⟨g, h, nm, ks, p, rfl, _⟩ := h; rfl)) (fun cdv A outer s H vs Q E hr h => ?_)
  refine def_ok ((ls_cut (ls_par (i := 4) (j := 5) (la_cons (le_op (lr_ix (K := K)) (le_var (i := 2)) (le_callC (is := [0]) (dv := []) (fun _ => .nil) (la_cons (le_var (i := 0)) (la_cons (le_cb (lc_len (K := K)) (la_cons (le_var (i := 2)) la_nil)) la_nil)))) (la_cons (le_op (lr_ix (K := K)) (le_tup (la_cons (le_callC (is := [0]) (dv := []) (fun _ => .nil) (la_cons (le_var (i := 0)) (la_cons le_int la_nil))) (la_cons le_int (la_cons (le_callC (is := [0]) (dv := []) (fun _ => .nil) (la_cons (le_var (i := 0)) (la_cons le_int la_nil))) la_nil)))) (le_callC (is := [0]) (dv := []) (fun _ => .nil) (la_cons (le_var (i := 0)) (la_cons le_int la_nil)))) la_nil)))
      (ls_seq (ls_if (lt_B (le_isiC (K := K) .str (le_var (i := 3)))) (ls_seq (ls_asg (le_cb lc_max2 (la_cons le_int (la_cons (le_var (i := 5)) la_nil))) (lg_name (i := 5)))
      (ls_if (lt_test (le_op (lr_eq (K := K)) (le_var (i := 4)) (le_var (i := 3)))) (ls_asg (le_if (lt_test (le_op (lr_ne (K := K)) (le_op (lr_add (K := K)) (le_sl (K := K) (le_var (i := 3)) lo_none (lo_some le_int)) le_str) (le_var (i := 3)))) (le_op (lr_add (K := K)) (le_sl (K := K) (le_var (i := 3)) lo_none (lo_some le_int)) le_str) (le_op (lr_add (K := K)) (le_sl (K := K) (le_var (i := 3)) lo_none (lo_some le_int)) le_str)) (lg_name (i := 4))) ls_next)) ls_next)
      (ls_ret (le_tup (la_cons (le_var (i := 1)) (la_cons (le_var (i := 4)) (la_cons (le_var (i := 3)) (la_cons (le_var (i := 5)) la_nil)))))))))
    ((pss_cons (ps_par (i := 4) (j := 5) rfl sc_rule.nd rfl rfl (by decide) rfl rfl (pa_cons (pe_ix (x_ix (K := K) rfl) (pv 2) (pe_call g_take (hr.mono (by omega)) (by rfl) m_take k_take b_take .nil pass0 (pa_cons (pv 0) (pa_cons (pe_callB (x_len (K := K) rfl) (by rfl) B.len_ bt_len (pa_cons (pv 2) pa_nil)) pa_nil))) (fun _ _ => rfl)) (pa_cons (pe_ix (x_ix (K := K) rfl) (pe_tup (pa_cons (pe_call g_take (hr.mono (by omega)) (by rfl) m_take k_take b_take .nil pass0 (pa_cons (pv 0) (pa_cons pe_int pa_nil))) (pa_cons pe_int (pa_cons (pe_call g_take (hr.mono (by omega)) (by rfl) m_take k_take b_take .nil pass0 (pa_cons (pv 0) (pa_cons pe_int pa_nil))) pa_nil)))) (pe_call g_take (hr.mono (by omega)) (by rfl) m_take k_take b_take .nil pass0 (pa_cons (pv 0) (pa_cons pe_int pa_nil))) (fun _ _ => rfl)) pa_nil)) rfl)
      (pss_cons (ps_if (pt_val (pe_callB (x_isi (K := K) rfl) (by rfl) B.isinstance_ bt_isinstance (pa_cons (pv 3) (pa_cons (pe_bltn (by rfl) B.str_ bt_str (v := .ty "str") rfl) pa_nil)))) (pss_cons (ps_set (i := 5) sc_rule.nd rfl (Or.inl rfl) (pe_callB (call_max2 rfl) (by rfl) B.max_ bt_max (pa_cons pe_int (pa_cons (pv 5) pa_nil))))
      (pss_one (ps_if (pt_cmpR (x_eq (K := K) rfl (hu64 hr)) (pv 4) (pv 3) (by first | exact nomark _ | rfl)) (pss_one (ps_set (i := 4) sc_rule.nd rfl (Or.inl rfl) (pe_ifExp (pt_cmpR (x_ne (K := K) rfl (hu64 hr)) (pe_op (x_add (K := K) rfl) (pe_slice (x_sl (K := K) rfl) (pv 3) po_none (po_some pe_int)) pe_str) (pv 3) (by first | exact nomark _ | rfl)) (pe_op (x_add (K := K) rfl) (pe_slice (x_sl (K := K) rfl) (pv 3) po_none (po_some pe_int)) pe_str) (pe_op (x_add (K := K) rfl) (pe_slice (x_sl (K := K) rfl) (pv 3) po_none (po_some pe_int)) pe_str)))) pss_nil))) pss_nil)
      (pss_one (ps_ret (pe_tup (pa_cons (pv 1) (pa_cons (pv 4) (pa_cons (pv 3) (pa_cons (pv 5) pa_nil))))))))))
    h (fun us M Qu hd => ?_)
  obtain ⟨g, h, nm, ks, p, rfl, rfl, hb, hnm, hks, hp, k⟩ := hd
  have hsl : 1000000 ≤ sizeLine := by decide
  have hk5 := hks.2.1
  have hkp : 0 < ks.length := List.length_pos_iff.mpr hks.1
  skip
  walk_at "go"
  refine ⟨(fun ρ M => ∃ (kd : Str) (c : Int) (g h : Int), (kindOk kd) ∧ (0 ≤ c) ∧ (c ≤ 1000) ∧ (bagOk g h) ∧ ρ = [some (.p 0), some (.d (.str (nm))), some (.d (.list (ks.map PyData.str))), some (.d (p.enc)), some (.d (.str (kd))), some (.d (.int (c)))] ∧ M = [bagO g h]), ?_, ?_⟩
  · walk_at "go"
    refine ⟨_, _, _, rfl, rfl, hb, by first | decide | omega | (simp only [List.length_map, len_kids]; omega) | (simp <;> omega), by first | decide | omega | (simp only [List.length_map, len_kids]; omega) | (simp <;> omega), fun r g h r_0 r_1 hb => ?_⟩
    rw [List.length_map] at r_1
    obtain ⟨kd, hk1, hk2⟩ := kind_at_list ks r r_0 r_1
    refine ⟨_, _, _, rfl, rfl, ix_l hk2, ?_⟩
    walk_at "go"
    refine ⟨_, _, 5, rfl, rfl, hb, by first | decide | omega | (simp only [List.length_map, len_kids]; omega) | (simp <;> omega), by first | decide | omega | (simp only [List.length_map, len_kids]; omega) | (simp <;> omega), fun a g h a_0 a_1 hb => ?_⟩
    walk_at "go"
    refine ⟨_, _, 1001, rfl, rfl, hb, by first | decide | omega | (simp only [List.length_map, len_kids]; omega) | (simp <;> omega), by first | decide | omega | (simp only [List.length_map, len_kids]; omega) | (simp <;> omega), fun b g h b_0 b_1 hb => ?_⟩
    walk_at "go"
    refine ⟨_, _, 3, rfl, rfl, hb, by first | decide | omega | (simp only [List.length_map, len_kids]; omega) | (simp <;> omega), by first | decide | omega | (simp only [List.length_map, len_kids]; omega) | (simp <;> omega), fun t g h t_0 t_1 hb => ?_⟩
    have ht : t = 0 ∨ t = 1 ∨ t = 2 := by omega
    rcases ht with rfl | rfl | rfl
    · walk_at "go"
      exact ⟨kd, a, g, h, hks.2.2 kd hk1, a_0, by omega, hb, rfl, rfl⟩
    · walk_at "go"
      exact ⟨kd, 1000, g, h, hks.2.2 kd hk1, by omega, by omega, hb, rfl, rfl⟩
    · walk_at "go"
      exact ⟨kd, b, g, h, hks.2.2 kd hk1, b_0, by omega, hb, rfl, rfl⟩
  rintro _ _ ⟨kd, c, g, h, hk, c0, c1, hb, rfl, rfl⟩
  cases hi : isKind p with
  | false =>
    obtain ⟨ds, he⟩ := enc_str hi
    rw [he]
    walk_at "go"
    refine fin_be (z := (Rule.mk nm kd p c).enc) ?_ (k ⟨nm, kd, p, c⟩ _ _ ⟨hnm, hk, hp, c0, c1, fun q e => by subst e; cases hi⟩ rfl rfl hb)
    rw [Rule.enc, he]
  | true =>
    cases p with
    | kind q =>
      have hq : kindOk q := hp.top
      walk_at "go"
      refine wseq (fun e => ?_) (fun e => ?_)
      · walk_at "go"
        obtain ⟨q1, q2, q3⟩ := cut7_app hq.1 122 (by omega) (by omega)
        have hql : q.length ≤ sizeLine := by have := hq.1.2.1; show q.cps.size ≤ _; rw [← Array.length_toList]; omega
        have hq7 : (cutS q none (some 7)).length + 1 ≤ sizeLine := by omega
        refine ⟨_, _, _, rfl, rfl, hql, ?_⟩
        walk_at "go"
        refine ⟨_, _, _, _, rfl, rfl, rfl, hq7, ?_⟩
        walk_at "go"
        have pos : ∀ c : Int, 1 ≤ (if c > 1 then c else 1) := fun c => by split <;> omega
        have le : c ≤ 1000 → (if c > 1 then c else 1) ≤ 1000 := fun c => by split <;> omega
        refine wsne (fun e2 => ?_) (fun e2 => ?_)
        · walk_at "go"
          refine ⟨_, _, _, rfl, rfl, hql, ?_⟩
          walk_at "go"
          refine ⟨_, _, _, _, rfl, rfl, rfl, hq7, ?_⟩
          walk_at "go"
          exact fin_be (z := (Rule.mk nm (cutS q none (some 7) ++ ⟨#[122]⟩) (.kind q) (if c > 1 then c else 1)).enc) rfl (k ⟨nm, _, .kind q, _⟩ _ _ ⟨hnm, kind7 hq.1 (.inl rfl), hp, by have := pos c; dsimp only; omega, le c1, fun z ez => by cases ez; exact ⟨pos c, fun e3 => e2 e3.symm⟩⟩ rfl rfl hb)
        · walk_at "go"
          refine ⟨_, _, _, rfl, rfl, hql, ?_⟩
          walk_at "go"
          refine ⟨_, _, _, _, rfl, rfl, rfl, hq7, ?_⟩
          walk_at "go"
          exact fin_be (z := (Rule.mk nm (cutS q none (some 7) ++ ⟨#[121]⟩) (.kind q) (if c > 1 then c else 1)).enc) rfl (k ⟨nm, _, .kind q, _⟩ _ _ ⟨hnm, kind7 hq.1 (.inr rfl), hp, by have := pos c; dsimp only; omega, le c1, fun z ez => by cases ez; exact ⟨pos c, seven_ne hq.1 e2⟩⟩ rfl rfl hb)
      · walk_at "go"
        exact fin_be (z := (Rule.mk nm kd (.kind q) (if c > 1 then c else 1)).enc) rfl (k ⟨nm, kd, .kind q, _⟩ _ _ ⟨hnm, hk, hp, by dsimp only; split <;> omega, by dsimp only; split <;> omega, fun z ez => by cases ez; exact ⟨by dsimp only; split <;> omega, fun e2 => e e2.symm⟩⟩ rfl rfl hb)
    | _ => cases hi

/-! ### cut -/
abbrev s_cut : Stmt := top 36
theorem sc_cut : FnScope ["_law_bag_here", "_law_web_here", "_law_at", "_law_kinds_here", "_law_deep", "_law_left", "_law_op", "_law_mark", "_law_kids", "_law_some", "_law_kid"] ["_law_bag_here", "_law_web_here", "_law_at", "_law_kinds_here", "_law_deep", "_law_left"] (defScope s_cut) := ⟨rfl, rfl, rfl, by decide +kernel, rfl, by decide +kernel, by decide +kernel⟩
theorem ok_cut {f : Addr} {fd : FuncData} (F : Fun K "_law_cut" "_law_cut" s_cut f fd) (B : Bln mg) (G : Gln w K mg) (m_cut : mg "_law_cut" = some (.ref f)) (k_cut : PySem.W.keepIn K (.ref f) = true) (b_cut : Binds K fd ["_law_bag_here", "_law_web_here", "_law_at", "_law_kinds_here", "_law_deep", "_law_left"] [])
    {f_take : Addr} {fd_take : FuncData} (g_take : FnOk P w K mg base CX0 1 f_take fd_take ["_law_bag_here", "_law_many"] (liftSp sp_take)) (m_take : mg "_law_take" = some (.ref f_take)) (k_take : PySem.W.keepIn K (.ref f_take) = true) (b_take : Binds K fd_take ["_law_bag_here", "_law_many"] [])
    : ∀ lv : Nat, FnOk P w K mg base CX0 (lv + 3) f fd ["_law_bag_here", "_law_web_here", "_law_at", "_law_kinds_here", "_law_deep", "_law_left"] (liftSp (sp_cut lv)) := by
  intro lv
  induction lv with
  | zero =>
    refine ⟨lift_len (by rintro us M Q h; obtain ⟨g, h, parts, deed, at_, ks, deep, left, rfl, _⟩ := h; rfl), fun A outer s H args us vs Q E _ _ _ _ h => ?_⟩
    obtain ⟨_, M, us, Qu, _, _, h, _⟩ := h
    obtain ⟨g, h, parts, deed, at_, ks, deep, left, _, _, _, _, _, _, _, hd, _⟩ := h; exact absurd hd (Nat.not_lt_zero _)
  | succ lv g_cut =>
  refine F.ok sc_cut (lift_len (by rintro us M Q h; obtain ⟨g, h, parts, deed, at_, ks, deep, left, rfl, _⟩ := h; rfl)) (fun cdv A outer s H vs Q E hr h => ?_)
  refine def_ok ((ls_seq (ls_asg (le_op (lr_ix (K := K)) (le_var (i := 1)) (le_var (i := 2))) (lg_tup (K := K) (n := 3) (lgs_cons (lg_name (i := 6)) (lgs_cons (lg_name (i := 7)) (lgs_cons (lg_name (i := 8)) lgs_nil)))))
      (ls_cut (ls_if (lt_or (lt_test (le_op (lr_eq (K := K)) (le_var (i := 4)) le_int)) (lt_or (lt_test (le_op (lr_eq (K := K)) (le_op (lr_ix (K := K)) (le_var (i := 5)) le_int) le_int)) (lt_and (lt_test (le_op lr_lt (le_var (i := 4)) le_int)) (lt_test (le_op (lr_eq (K := K)) (le_callC (is := [0]) (dv := []) (fun _ => .nil) (la_cons (le_var (i := 0)) (la_cons le_int la_nil))) le_int))))) (ls_ret (le_op (lr_ix (K := K)) (le_var (i := 3)) (le_callC (is := [0]) (dv := []) (fun _ => .nil) (la_cons (le_var (i := 0)) (la_cons (le_cb (lc_len (K := K)) (la_cons (le_var (i := 3)) la_nil)) la_nil))))) ls_next)
      (ls_cut (ls_augS (le_var (i := 5)) le_int (lr_ixL (K := K)) le_int (lr_ipI lr_sub) lset_list)
      (ls_seq (ls_if (lt_test (le_op (lr_eq (K := K)) (le_var (i := 6)) le_str)) (ls_seq (ls_asg (le_lst (la_cons (le_tup (la_cons le_str la_nil)) (la_cons (le_tup (la_cons le_str (la_cons le_str (la_cons (le_var (i := 7)) la_nil)))) (la_cons (le_tup (la_cons le_str (la_cons le_str (la_cons (le_cb lc_min2 (la_cons le_int (la_cons (le_op (lr_add (K := K)) (le_var (i := 7)) le_int) la_nil))) la_nil)))) la_nil)))) (lg_name (i := 9)))
      (ls_ret (le_op (lr_ix (K := K)) (le_var (i := 9)) (le_op lr_mulA (le_callC (is := [0]) (dv := []) (fun _ => .nil) (la_cons (le_var (i := 0)) (la_cons le_int la_nil))) (le_cb lc_int1 (la_cons (le_or (le_op lr_lt (le_var (i := 7)) le_int) (le_op (lr_eq (K := K)) (le_callC (is := [0]) (dv := []) (fun _ => .nil) (la_cons (le_var (i := 0)) (la_cons le_int la_nil))) le_int)) la_nil)))))) ls_next)
      (ls_seq (ls_if (lt_test (le_op (lr_eq (K := K)) (le_var (i := 6)) le_str)) (ls_ret (le_tup (la_cons le_str la_nil))) ls_next)
      (ls_ret (le_cb (lc_tupOf (K := K)) (la_cons (le_op (lr_add (K := K)) (le_lst (la_cons (le_var (i := 6)) la_nil)) (le_lc (li_tup (K := K) (le_var (i := 8))) (lgv_name (i := 10) (by decide)) lt_yes (le_callC (is := [0, 1]) (dv := []) (fun _ => .nil) (la_cons (le_var (i := 0)) (la_cons (le_var (i := 1)) (la_cons (le_var (i := 10)) (la_cons (le_var (i := 3)) (la_cons (le_op lr_sub (le_var (i := 4)) le_int) (la_cons (le_var (i := 5)) la_nil))))))))) la_nil)))))))))
    ((pss_cons (ps_asg (pe_ix (x_ix (K := K) rfl) (pv 1) (pv 2) (fun _ _ => rfl)) (pg_tup rfl (pgs_cons (pg_name (i := 6) sc_cut.nd rfl (Or.inl rfl)) (pgs_cons (pg_name (i := 7) sc_cut.nd rfl (Or.inl rfl)) (pgs_cons (pg_name (i := 8) sc_cut.nd rfl (Or.inl rfl)) pgs_nil)))))
      (pss_cons (ps_if (PW.pt (pw_or (pt_cmpR (x_eq (K := K) rfl (hu64 hr)) (pv 4) pe_int (by first | exact nomark _ | rfl)) (pw_or (pt_cmpR (x_eq (K := K) rfl (hu64 hr)) (pe_ix (x_ix (K := K) rfl) (pv 5) pe_int (fun _ _ => rfl)) pe_int (by first | exact nomark _ | rfl)) (pw_or1 (PW.pt (pw_and (pt_cmpR op_lt (pv 4) pe_int (by first | exact nomark _ | rfl)) (pw_and1 (pt_cmpR (x_eq (K := K) rfl (hu64 hr)) (pe_call g_take (hr.mono (by omega)) (by rfl) m_take k_take b_take .nil pass0 (pa_cons (pv 0) (pa_cons pe_int pa_nil))) pe_int (by first | exact nomark _ | rfl))))))))) (pss_one (ps_ret (pe_ix (x_ix (K := K) rfl) (pv 3) (pe_call g_take (hr.mono (by omega)) (by rfl) m_take k_take b_take .nil pass0 (pa_cons (pv 0) (pa_cons (pe_callB (x_len (K := K) rfl) (by rfl) B.len_ bt_len (pa_cons (pv 3) pa_nil)) pa_nil))) (fun _ _ => rfl)))) pss_nil)
      (pss_cons (ps_augS (pv 5) pe_int (x_getL (K := K) rfl) pe_int ip_sub set_list)
      (pss_cons (ps_if (pt_cmpR (x_eq (K := K) rfl (hu64 hr)) (pv 6) pe_str (by first | exact nomark _ | rfl)) (pss_cons (ps_set (i := 9) sc_cut.nd rfl (Or.inl rfl) (pe_lst (pa_cons (pe_tup (pa_cons pe_str pa_nil)) (pa_cons (pe_tup (pa_cons pe_str (pa_cons pe_str (pa_cons (pv 7) pa_nil)))) (pa_cons (pe_tup (pa_cons pe_str (pa_cons pe_str (pa_cons (pe_callB (call_min2 rfl) (by rfl) B.min_ bt_min (pa_cons pe_int (pa_cons (pe_op (x_add (K := K) rfl) (pv 7) pe_int) pa_nil))) pa_nil)))) pa_nil)))))
      (pss_one (ps_ret (pe_ix (x_ix (K := K) rfl) (pv 9) (pe_op op_mulAll (pe_call g_take (hr.mono (by omega)) (by rfl) m_take k_take b_take .nil pass0 (pa_cons (pv 0) (pa_cons pe_int pa_nil))) (pe_callTy call_int1 (by rfl) B.int_ bt_int (pa_cons (pe_or (pe_cmpR op_lt (pv 7) pe_int (by first | exact nomark _ | rfl)) (pe_one (pe_cmpR (x_eq (K := K) rfl (hu64 hr)) (pe_call g_take (hr.mono (by omega)) (by rfl) m_take k_take b_take .nil pass0 (pa_cons (pv 0) (pa_cons pe_int pa_nil))) pe_int (by first | exact nomark _ | rfl)))) pa_nil))) (fun _ _ => rfl))))) pss_nil)
      (pss_cons (ps_if (pt_cmpR (x_eq (K := K) rfl (hu64 hr)) (pv 6) pe_str (by first | exact nomark _ | rfl)) (pss_one (ps_ret (pe_tup (pa_cons pe_str pa_nil)))) pss_nil)
      (pss_one (ps_ret (pe_callTy (x_tupOf (K := K) rfl) (by rfl) B.tuple_ bt_tuple (pa_cons (pe_op (x_add (K := K) rfl) (pe_lst (pa_cons (pv 6) pa_nil)) (pe_lc (own := [("_law_kid", 10)]) rfl sc_cut.nd (pi_tup (pv 8)) (blkOk_by (N := ["_law_bag_here", "_law_web_here", "_law_at", "_law_kinds_here", "_law_deep", "_law_left", "_law_op", "_law_mark", "_law_kids", "_law_some", "_law_kid"]) (sc := defScope s_cut) (by decide +kernel)) (fun _ _ _ _ _ => (pg_name (i := 10) sc_cut.nd rfl (Or.inl rfl))) (fun _ _ _ _ _ => pts_nil) (fun _ _ _ _ _ => (pe_call g_cut (hr.mono (by omega)) (by rfl) m_cut k_cut b_cut .nil pass0 (pa_cons (pv 0) (pa_cons (pv 1) (pa_cons (pv 10) (pa_cons (pv 3) (pa_cons (pe_op op_sub (pv 4) pe_int) (pa_cons (pv 5) pa_nil)))))))))) pa_nil))))))))))
    h (fun us M Qu hd => ?_)
  obtain ⟨g, h, parts, deed, at_, ks, deep, left, rfl, rfl, hb, hpa, hde, hat, hks, hd, hl, k⟩ := hd
  obtain ⟨n, hn1, hn2⟩ := node_at parts deed at_ hat
  skip
  have hsl : 1000000 ≤ sizeLine := by decide
  have hk5 := hks.2.1
  have hkp : 0 < ks.length := List.length_pos_iff.mpr hks.1
  skip
  walk_at "go"
  refine ⟨_, _, _, rfl, rfl, ix_l hn2, ?_⟩
  walk_at "go"
  refine ⟨(fun ρ M => ∃ (g h : Int) (x_some x_kid : Option U), (bagOk g h) ∧ (1 ≤ deep) ∧ (1 ≤ left) ∧ ρ = [some (.p 0), some (.d (encWeb (parts ++ [deed]))), some (.d (.int (at_))), some (.d (.list (ks.map PyData.str))), some (.d (.int (deep))), some (.p 1), some (.d (.str (n.op))), some (.d (n.mark)), some (.d (.tuple (encKids n.kids))), x_some, x_kid] ∧ M = [bagO g h, leftO (left : Int)]), ?_, ?_⟩
  · walk_at "go"
    rw [eqv_i]
    refine witeD (fun _ => ?_) (fun hd0 => ?_)
    · walk_at "go"
      (walk_at "go"; refine ⟨_, _, _, rfl, rfl, hb, by first | decide | omega | (simp only [List.length_map, len_kids]; omega) | (simp <;> omega), by first | decide | omega | (simp only [List.length_map, len_kids]; omega) | (simp <;> omega), fun r g h r_0 r_1 hb => ?_⟩; rw [List.length_map] at r_1; obtain ⟨kd, hk1, hk2⟩ := kind_at_list ks r r_0 r_1; refine ⟨_, _, _, rfl, rfl, ix_l hk2, ?_⟩; exact fin_bl rfl (k (.kind kd) _ _ _ (hks.2.2 kd hk1) (fun _ => hks.2.2 kd hk1) (by simp [Pat.depth]) (Nat.zero_add _) hb))
    walk_at "go"
    rw [eqv_i]
    refine witeD (fun _ => ?_) (fun hl0 => ?_)
    · walk_at "go"
      (walk_at "go"; refine ⟨_, _, _, rfl, rfl, hb, by first | decide | omega | (simp only [List.length_map, len_kids]; omega) | (simp <;> omega), by first | decide | omega | (simp only [List.length_map, len_kids]; omega) | (simp <;> omega), fun r g h r_0 r_1 hb => ?_⟩; rw [List.length_map] at r_1; obtain ⟨kd, hk1, hk2⟩ := kind_at_list ks r r_0 r_1; refine ⟨_, _, _, rfl, rfl, ix_l hk2, ?_⟩; exact fin_bl rfl (k (.kind kd) _ _ _ (hks.2.2 kd hk1) (fun _ => hks.2.2 kd hk1) (by simp [Pat.depth]) (Nat.zero_add _) hb))
    walk_at "go"
    refine witeD (fun _ => ?_) (fun _ => ?_)
    · walk_at "go"
      refine ⟨_, _, 3, rfl, rfl, hb, by first | decide | omega | (simp only [List.length_map, len_kids]; omega) | (simp <;> omega), by first | decide | omega | (simp only [List.length_map, len_kids]; omega) | (simp <;> omega), fun r g h r_0 r_1 hb => ?_⟩
      walk_at "go"
      rw [eqv_i]
      refine witeD (fun _ => ?_) (fun _ => ?_)
      · walk_at "go"
        (walk_at "go"; refine ⟨_, _, _, rfl, rfl, hb, by first | decide | omega | (simp only [List.length_map, len_kids]; omega) | (simp <;> omega), by first | decide | omega | (simp only [List.length_map, len_kids]; omega) | (simp <;> omega), fun r g h r_0 r_1 hb => ?_⟩; rw [List.length_map] at r_1; obtain ⟨kd, hk1, hk2⟩ := kind_at_list ks r r_0 r_1; refine ⟨_, _, _, rfl, rfl, ix_l hk2, ?_⟩; exact fin_bl rfl (k (.kind kd) _ _ _ (hks.2.2 kd hk1) (fun _ => hks.2.2 kd hk1) (by simp [Pat.depth]) (Nat.zero_add _) hb))
      · walk_at "go"
        exact ⟨g, h, _, _, hb, by omega, by omega, rfl, rfl⟩
    · walk_at "go"
      exact ⟨g, h, _, _, hb, by omega, by omega, rfl, rfl⟩
  rintro _ _ ⟨g, h, x_some, x_kid, hb, hd0, hl0, rfl, rfl⟩
  obtain ⟨deep, rfl⟩ : ∃ d, deep = d + 1 := ⟨deep - 1, by omega⟩
  obtain ⟨left, rfl⟩ : ∃ d, left = d + 1 := ⟨left - 1, by omega⟩
  walk_at "go"
  refine ⟨(fun ρ M => ∃ (g h : Int) (x_some x_kid : Option U), (bagOk g h) ∧ ρ = [some (.p 0), some (.d (encWeb (parts ++ [deed]))), some (.d (.int (at_))), some (.d (.list (ks.map PyData.str))), some (.d (.int (((deep + 1 : Nat) : Int)))), some (.p 1), some (.d (.str (n.op))), some (.d (n.mark)), some (.d (.tuple (encKids n.kids))), x_some, x_kid] ∧ M = [bagO g h, leftO (left : Int)]), ?_, ?_⟩
  · walk_at "go"
    refine ⟨_, _, _, _, _, rfl, rfl, rfl, rfl, rfl, ?_⟩
    refine ⟨_, _, _, _, hb, rfl, ?_⟩
    show [_, Ob.lst [.int (((left + 1 : Nat) : Int) - 1)]] = _
    rw [show ((left + 1 : Nat) : Int) - 1 = (left : Int) by omega]; rfl
  rintro _ _ ⟨g, h, x_some, x_kid, hb, rfl, rfl⟩
  walk_at "go"
  rcases cut_case hpa hde hn1 with ⟨e, w, hw, w0, w1⟩ | e | ⟨e1, e2, hk2, hkl, hps⟩
  · rw [e, hw]
    walk_at "go"
    refine ⟨_, _, 3, rfl, rfl, hb, by first | decide | omega | (simp only [List.length_map, len_kids]; omega) | (simp <;> omega), by first | decide | omega | (simp only [List.length_map, len_kids]; omega) | (simp <;> omega), fun r g h r_0 r_1 hb => ?_⟩
    walk_at "go"
    refine witeD (fun _ => ?_) (fun _ => ?_)
    · walk_at "go"
      obtain ⟨p, p1, p2, p3, p4, p5⟩ := some_at w0 w1 (r * (if true = true then 1 else 0)) (by simp; omega) (by simp; omega)
      refine ⟨_, _, _, _, rfl, rfl, rfl, .inr ⟨by decide, by decide⟩, ?_⟩
      refine ⟨_, _, _, rfl, rfl, ix_l p1, ?_⟩
      exact fin_bl rfl (k p _ _ left p3 (fun _ => p2) (by omega) (by omega) hb)
    · walk_at "go"
      refine ⟨_, _, 2, rfl, rfl, hb, by first | decide | omega | (simp only [List.length_map, len_kids]; omega) | (simp <;> omega), by first | decide | omega | (simp only [List.length_map, len_kids]; omega) | (simp <;> omega), fun t g h t_0 t_1 hb => ?_⟩
      walk_at "go"
      have hj : ∀ b : Bool, 0 ≤ r * (if b = true then (1 : Int) else 0) ∧ r * (if b = true then (1 : Int) else 0) < 3 := fun b => by cases b <;> simp <;> omega
      obtain ⟨p, p1, p2, p3, p4, p5⟩ := some_at w0 w1 (r * (if PyData.eqv (.int t) (.int 0) = true then 1 else 0)) (hj _).1 (hj _).2
      refine ⟨_, _, _, _, rfl, rfl, rfl, .inr (by generalize PyData.eqv _ _ = b; cases b <;> decide), ?_⟩
      refine ⟨_, _, _, rfl, rfl, ix_l p1, ?_⟩
      exact fin_bl rfl (k p _ _ left p3 (fun _ => p2) (by omega) (by omega) hb)
  · rw [e]
    walk_at "go"
    exact fin_bl rfl (k .var _ _ left trivial (fun _ => trivial) (by simp [Pat.depth]) (by simp [Pat.ops]; omega) hb)
  · walk_at "go"
    refine wseq (fun e => absurd e e1) (fun _ => ?_)
    walk_at "go"
    refine wseq (fun e => absurd e e2) (fun _ => ?_)
    walk_at "go"
    refine wLcGo_rec (fun us acc M => ∃ (ps : List Pat) (kd : List Nat) (g h : Int) (left' : Nat), (us = (encKids kd).map U.d) ∧ (acc = (ps.map Pat.enc).map U.d) ∧ (∀ x ∈ kd, x ∈ n.kids) ∧ (ps.length + kd.length = n.kids.length) ∧ (Pat.goods ps) ∧ (Pat.depths ps ≤ deep + 1) ∧ (Pat.opss ps + left' = left) ∧ (bagOk g h) ∧ M = [bagO g h, leftO (left' : Int)]) ?_ ?_ _ _ _ ⟨[], n.kids, g, h, left, rfl, rfl, fun x hx => hx, by simp, trivial, Nat.zero_le _, Nat.zero_add _, hb, rfl⟩
    · rintro acc M ⟨ps, kd, g, h, left', hu, ha, hkd, hl, hgd, hdp, hop, hb, rfl⟩
      cases kd with
      | cons x kd => cases hu
      | nil =>
        refine ⟨trivial, _, by rw [ha]; exact dats_map _, ?_⟩
        have hl' : ps.length = n.kids.length := by simpa using hl
        have hpl : ps.length ≤ 2 := by omega
        obtain ⟨t1, t2⟩ := hps ps hl' hgd
        walk_at "go"
        refine ⟨_, _, _, _, rfl, rfl, rfl, by simp; omega, ?_⟩
        walk_at "go"
        refine fin_bl ?_ (k (.op n.op ps) _ _ left' t1 t2 (by simp only [Pat.depth]; omega) (by simp only [Pat.ops]; omega) hb)
        rw [Pat.enc, encs_map]; rfl
    · rintro u us ih acc M ⟨ps, kd, g, h, left', hu, ha, hkd, hl, hgd, hdp, hop, hb, rfl⟩
      cases kd with
      | nil => cases hu
      | cons x kd =>
        have hu' : u = .d (.int (x : Int)) ∧ us = (encKids kd).map U.d := by simpa [encKids] using hu
        obtain ⟨rfl, rfl⟩ := hu'
        have hxp := hkl x (hkd x List.mem_cons_self)
        refine ⟨trivial, ?_⟩
        walk_at "go"
        refine ⟨_, _, parts, deed, x, ks, deep, left', ?_, rfl, hb, hpa, hde, by omega, hks, by omega, by omega, fun p g h left'' hp0 hp1 hp2 hp3 hb => ?_⟩
        · show [_, _, _, _, U.d (.int (((deep + 1 : Nat) : Int) - 1)), _] = _
          rw [show ((deep + 1 : Nat) : Int) - 1 = (deep : Int) by omega]; rfl
        have hl' : ps.length + kd.length + 1 = n.kids.length := by simp at hl; omega
        refine ⟨by rw [ha, List.length_map, List.length_map]; omega, ?_⟩
        refine ih _ _ ⟨ps ++ [p], kd, g, h, left'', rfl, by rw [ha, List.map_append, List.map_append]; rfl, fun y hy => hkd y (List.mem_cons_of_mem _ hy), by simp; omega, ?_, ?_, ?_, hb, rfl⟩
        · rw [goods_iff] at hgd ⊢
          intro y hy
          rcases List.mem_append.mp hy with hy | hy
          · exact hgd y hy
          · rw [List.mem_singleton.mp hy]; exact hp1 hxp
        · rw [depths_snoc]; omega
        · rw [opss_snoc]; omega

/-! ### fitting -/
abbrev s_fitting : Stmt := top 37
theorem sc_fitting : FnScope ["_law_bag_here", "_law_web_here", "_law_many", "_law_kinds_here", "_law_rules", "_law_name_here", "_law_pattern_here"] ["_law_bag_here", "_law_web_here", "_law_many"] (defScope s_fitting) := ⟨rfl, rfl, rfl, by decide +kernel, rfl, by decide +kernel, by decide +kernel⟩
theorem ok_fitting {f : Addr} {fd : FuncData} (F : Fun K "_law_fitting" "_law_fitting" s_fitting f fd) (B : Bln mg) (G : Gln w K mg)
    {f_titles : Addr} {fd_titles : FuncData} (g_titles : FnOk P w K mg base CX0 3 f_titles fd_titles ["_law_bag_here", "_law_many"] (liftSp sp_titles)) (m_titles : mg "_law_titles" = some (.ref f_titles)) (k_titles : PySem.W.keepIn K (.ref f_titles) = true) (b_titles : Binds K fd_titles ["_law_bag_here", "_law_many"] [])
    {f_kinds : Addr} {fd_kinds : FuncData} (g_kinds : FnOk P w K mg base CX0 4 f_kinds fd_kinds ["_law_bag_here"] (liftSp sp_kinds)) (m_kinds : mg "_law_kinds" = some (.ref f_kinds)) (k_kinds : PySem.W.keepIn K (.ref f_kinds) = true) (b_kinds : Binds K fd_kinds ["_law_bag_here"] [])
    {f_cut : Addr} {fd_cut : FuncData} (g_cut : FnOk P w K mg base CX0 9 f_cut fd_cut ["_law_bag_here", "_law_web_here", "_law_at", "_law_kinds_here", "_law_deep", "_law_left"] (liftSp (sp_cut 6))) (m_cut : mg "_law_cut" = some (.ref f_cut)) (k_cut : PySem.W.keepIn K (.ref f_cut) = true) (b_cut : Binds K fd_cut ["_law_bag_here", "_law_web_here", "_law_at", "_law_kinds_here", "_law_deep", "_law_left"] [])
    {f_take : Addr} {fd_take : FuncData} (g_take : FnOk P w K mg base CX0 1 f_take fd_take ["_law_bag_here", "_law_many"] (liftSp sp_take)) (m_take : mg "_law_take" = some (.ref f_take)) (k_take : PySem.W.keepIn K (.ref f_take) = true) (b_take : Binds K fd_take ["_law_bag_here", "_law_many"] [])
    {f_pattern : Addr} {fd_pattern : FuncData} (g_pattern : FnOk P w K mg base CX0 10 f_pattern fd_pattern ["_law_bag_here", "_law_kinds_here"] (liftSp sp_pattern)) (m_pattern : mg "_law_pattern" = some (.ref f_pattern)) (k_pattern : PySem.W.keepIn K (.ref f_pattern) = true) (b_pattern : Binds K fd_pattern ["_law_bag_here", "_law_kinds_here"] [])
    {f_rule : Addr} {fd_rule : FuncData} (g_rule : FnOk P w K mg base CX0 2 f_rule fd_rule ["_law_bag_here", "_law_name_here", "_law_kinds_here", "_law_pattern_here"] (liftSp sp_rule)) (m_rule : mg "_law_rule" = some (.ref f_rule)) (k_rule : PySem.W.keepIn K (.ref f_rule) = true) (b_rule : Binds K fd_rule ["_law_bag_here", "_law_name_here", "_law_kinds_here", "_law_pattern_here"] [])
    : FnOk P w K mg base CX0 11 f fd ["_law_bag_here", "_law_web_here", "_law_many"] (liftSp sp_fitting) := by
  refine F.ok sc_fitting (lift_len (by rintro us M Q h; obtain ⟨g, h, parts, deed, many, rfl, _⟩ := h; rfl)) (fun cdv A outer s H vs Q E hr h => ?_)
  refine def_ok ((ls_seq (ls_par (i := 3) (j := 4) (la_cons (le_callC (is := [0]) (dv := []) (fun _ => .nil) (la_cons (le_var (i := 0)) la_nil)) (la_cons (le_lstC la_nil) la_nil)))
      (ls_seq (ls_for (li_list (K := K) (le_callC (is := [0]) (dv := []) (fun _ => .nil) (la_cons (le_var (i := 0)) (la_cons (le_var (i := 2)) la_nil)))) (lg_name (i := 5)) (ls_tr (ls_seq (ls_asg (le_callC (is := [0,2]) (dv := []) (fun _ => .nil) (la_cons (le_var (i := 0)) (la_cons (le_var (i := 1)) (la_cons (le_callC (is := [0]) (dv := []) (fun _ => .nil) (la_cons (le_var (i := 0)) (la_cons (le_cb (lc_len (K := K)) (la_cons (le_var (i := 1)) la_nil)) la_nil))) (la_cons (le_var (i := 3)) (la_cons le_int (la_cons (le_lstC (la_cons le_int la_nil)) la_nil))))))) (lg_name (i := 6)))
      (ls_cut (ls_if (lt_test (le_op (lr_eq (K := K)) (le_callC (is := [0]) (dv := []) (fun _ => .nil) (la_cons (le_var (i := 0)) (la_cons le_int la_nil))) le_int)) (ls_asg (le_callC (is := [0]) (dv := []) (fun _ => .nil) (la_cons (le_var (i := 0)) (la_cons (le_var (i := 3)) la_nil))) (lg_name (i := 6))) ls_next)
      (ls_drop (le_bm (K := K) (ty_list (K := K)) lm_append (le_var (i := 4)) (la_cons (le_callC (is := [0]) (dv := []) (fun _ => .nil) (la_cons (le_var (i := 0)) (la_cons (le_var (i := 5)) (la_cons (le_var (i := 3)) (la_cons (le_var (i := 6)) la_nil))))) la_nil)))))))
      (ls_frz (i := 4) (ls_ret (le_tup (la_cons (le_op (lr_ix (K := K)) (le_var (i := 3)) (le_callC (is := [0]) (dv := []) (fun _ => .nil) (la_cons (le_var (i := 0)) (la_cons (le_cb (lc_len (K := K)) (la_cons (le_var (i := 3)) la_nil)) la_nil)))) (la_cons (le_var (i := 4)) la_nil))))))))
    ((pss_cons (ps_par (i := 3) (j := 4) rfl sc_fitting.nd rfl rfl (by decide) rfl rfl (pa_cons (pe_call g_kinds (hr.mono (by omega)) (by rfl) m_kinds k_kinds b_kinds .nil pass0 (pa_cons (pv 0) pa_nil)) (pa_cons (pe_lst pa_nil) pa_nil)) rfl)
      (pss_cons (ps_for PassesOwn.never rfl (pi_list (pe_call g_titles (hr.mono (by omega)) (by rfl) m_titles k_titles b_titles .nil pass0 (pa_cons (pv 0) (pa_cons (pv 2) pa_nil)))) (pg_name (i := 5) sc_fitting.nd rfl (Or.inl rfl)) (pss_cons (ps_set (i := 6) sc_fitting.nd rfl (Or.inl rfl) (pe_call g_cut (hr.mono (by omega)) (by rfl) m_cut k_cut b_cut .nil pass0 (pa_cons (pv 0) (pa_cons (pv 1) (pa_cons (pe_call g_take (hr.mono (by omega)) (by rfl) m_take k_take b_take .nil pass0 (pa_cons (pv 0) (pa_cons (pe_callB (x_len (K := K) rfl) (by rfl) B.len_ bt_len (pa_cons (pv 1) pa_nil)) pa_nil))) (pa_cons (pv 3) (pa_cons pe_int (pa_cons (pe_lst (pa_cons pe_int pa_nil)) pa_nil))))))))
      (pss_cons (ps_if (pt_cmpR (x_eq (K := K) rfl (hu64 hr)) (pe_call g_take (hr.mono (by omega)) (by rfl) m_take k_take b_take .nil pass0 (pa_cons (pv 0) (pa_cons pe_int pa_nil))) pe_int (by first | exact nomark _ | rfl)) (pss_one (ps_set (i := 6) sc_fitting.nd rfl (Or.inl rfl) (pe_call g_pattern (hr.mono (by omega)) (by rfl) m_pattern k_pattern b_pattern .nil pass0 (pa_cons (pv 0) (pa_cons (pv 3) pa_nil))))) pss_nil)
      (pss_one (ps_expr (pe_bm PySem.F.plainAttrs_list PySem.F.slot_list_append PySem.F.type_list_append mt_append (pv 4) (pa_cons (pe_call g_rule (hr.mono (by omega)) (by rfl) m_rule k_rule b_rule .nil pass0 (pa_cons (pv 0) (pa_cons (pv 5) (pa_cons (pv 3) (pa_cons (pv 6) pa_nil))))) pa_nil)))))))
      (pss_one (ps_ret (pe_tup (pa_cons (pe_ix (x_ix (K := K) rfl) (pv 3) (pe_call g_take (hr.mono (by omega)) (by rfl) m_take k_take b_take .nil pass0 (pa_cons (pv 0) (pa_cons (pe_callB (x_len (K := K) rfl) (by rfl) B.len_ bt_len (pa_cons (pv 3) pa_nil)) pa_nil))) (fun _ _ => rfl)) (pa_cons (pv 4) pa_nil))))))))
    h (fun us M Qu hd => ?_)
  obtain ⟨g, h, parts, deed, many, rfl, rfl, hb, hpa, hde, hpl, hm, k⟩ := hd
  have hsl : 1000000 ≤ sizeLine := by decide
  skip
  walk_at "go"
  refine ⟨hb, fun ks g h hks hb => ?_⟩
  have hk5 := hks.2.1
  have hkp : 0 < ks.length := List.length_pos_iff.mpr hks.1
  walk_at "go"
  refine ⟨_, _, many, rfl, rfl, hb, by omega, fun ns g h hns hnl hb => ?_⟩
  walk_at "go"
  refine wLoop_rec (fun us ρ M => ∃ (dn td : List Str) (rs : List Rule) (g h : Int) (x_name_here x_pattern_here : Option U), (us = (td.map PyData.str).map U.d) ∧ (ns = dn ++ td) ∧ (rs.map Rule.name = dn) ∧ (∀ r ∈ rs, RuleOk r) ∧ (bagOk g h) ∧ ρ = [some (.p 0), some (.d (encWeb (parts ++ [deed]))), some (.d (.int (many))), some (.d (.list (ks.map PyData.str))), some (.p 1), x_name_here, x_pattern_here] ∧ M = [bagO g h, .lst (rs.map Rule.enc)]) ?_ ?_ _ _ _ ⟨[], ns, [], g, h, _, _, rfl, rfl, rfl, fun _ hx => (nomatch hx), hb, rfl, rfl⟩
  · rintro ρ M ⟨dn, td, rs, g, h, x_name_here, x_pattern_here, hu, hd, hr, hrs, hb, rfl, rfl⟩
    cases td with
    | cons x td => cases hu
    | nil =>
      refine ⟨trivial, ?_⟩
      walk_at "go"
      refine ⟨_, _, _, rfl, rfl, hb, by first | decide | omega | (simp only [List.length_map, len_kids]; omega) | (simp <;> omega), by first | decide | omega | (simp only [List.length_map, len_kids]; omega) | (simp <;> omega), fun r g h r_0 r_1 hb => ?_⟩
      rw [List.length_map] at r_1
      obtain ⟨kd, hk1, hk2⟩ := kind_at_list ks r r_0 r_1
      refine ⟨_, _, _, rfl, rfl, ix_l hk2, ?_⟩
      walk_at "go"
      rw [List.append_nil] at hd
      subst hr
      exact fin_be (z := encMachine kd rs) rfl (k kd rs _ _ ⟨hks.2.2 kd hk1, hrs, hd ▸ hns⟩ (by rw [← hnl, hd, List.length_map]) hb)
  · rintro u us ih ρ M ⟨dn, td, rs, g, h, x_name_here, x_pattern_here, hu, hd, hr, hrs, hb, rfl, rfl⟩
    cases td with
    | nil => cases hu
    | cons nm td =>
      rw [List.map_cons, List.map_cons] at hu
      cases hu
      have hnm : nameOk nm := (hns dn.length nm (by rw [hd]; simp)).1
      refine ⟨trivial, ?_⟩
      walk_at "go"
      refine ⟨_, _, _, rfl, rfl, hb, by first | decide | omega | (simp only [List.length_map, len_kids]; omega) | (simp <;> omega), by first | decide | omega | (simp only [List.length_map, len_kids]; omega) | (simp <;> omega), fun r g h r_0 r_1 hb => ?_⟩
      obtain ⟨a, rfl⟩ : ∃ a : Nat, r = (a : Int) := ⟨r.toNat, by omega⟩
      rw [List.length_map, List.length_append, List.length_singleton] at r_1
      walk_at "go"
      refine ⟨_, _, parts, deed, a, ks, 4, 8, rfl, rfl, hb, hpa, hde, by omega, hks, by omega, by omega, fun p g h left hp0 hp1 hp2 hp3 hb => ?_⟩
      walk_at "go"
      refine ⟨(fun ρ M => ∃ (p : Pat) (g h : Int) (x : Ob), (bagOk g h) ∧ (PatOk p) ∧ ρ = [some (.p 0), some (.d (encWeb (parts ++ [deed]))), some (.d (.int (many))), some (.d (.list (ks.map PyData.str))), some (.p 1), some (.d (.str (nm))), some (.d (p.enc))] ∧ M = [bagO g h, .lst (rs.map Rule.enc), x]), ?_, ?_⟩
      · walk_at "go"
        refine ⟨_, _, 4, rfl, rfl, hb, by first | decide | omega | (simp only [List.length_map, len_kids]; omega) | (simp <;> omega), by first | decide | omega | (simp only [List.length_map, len_kids]; omega) | (simp <;> omega), fun t g h t_0 t_1 hb => ?_⟩
        walk_at "go"
        rw [eqv_i]
        refine witeD (fun _ => ?_) (fun _ => ?_)
        · walk_at "go"
          refine ⟨_, _, ks, rfl, rfl, hb, hks, fun p g h hp hb => ?_⟩
          walk_at "go"
          exact ⟨p, g, h, _, hb, hp, rfl, rfl⟩
        · walk_at "go"
          exact ⟨p, g, h, _, hb, ⟨hp0, by omega, by omega⟩, rfl, rfl⟩
      · rintro _ _ ⟨p, g, h, x, hb, hp, rfl, rfl⟩
        have hlen : dn.length + 1 ≤ many := by rw [← hnl, hd]; simp
        have hrl : rs.length = dn.length := by rw [← hr, List.length_map]
        walk_at "go"
        refine ⟨.inl ⟨_, rfl⟩, ?_⟩
        walk_at "go"
        refine ⟨_, _, nm, ks, p, rfl, rfl, hb, hnm, hks, hp, fun r g h hr1 hr2 hr3 hb => ?_⟩
        walk_at "go"
        refine ⟨by rw [List.length_map]; omega, ?_⟩
        refine ⟨show 2 ≤ 3 from by decide, ?_, ?_⟩
        · intro o ho
          have ho' : o ∈ [bagO g h, Ob.lst (rs.map Rule.enc ++ [r.enc])] := ho
          have e : o = bagO g h ∨ o = .lst (rs.map Rule.enc ++ [r.enc]) := by simpa using ho'
          rcases e with rfl | rfl <;> exact trivial
        · refine ih _ _ ⟨dn ++ [nm], td, rs ++ [r], g, h, _, _, rfl, by rw [hd]; simp, by rw [List.map_append, hr]; simp [hr2], ?_, hb, rfl, ?_⟩
          · intro x hx
            rcases List.mem_append.mp hx with hx | hx
            · exact hrs x hx
            · rw [List.mem_singleton.mp hx]; exact hr1
          · rw [List.map_append]; rfl

/-! ### taken_less -/
abbrev s_taken_less : Stmt := top 9
theorem sc_taken_less : FnScope ["one", "other"] ["one", "other"] (defScope s_taken_less) := ⟨rfl, rfl, rfl, by decide +kernel, rfl, by decide +kernel, by decide +kernel⟩
theorem ok_taken_less {f : Addr} {fd : FuncData} (F : Fun K "taken_less" "taken_less" s_taken_less f fd) (B : Bln mg) (G : Gln w K mg)
    : FnOk P w K mg base CX0 1 f fd ["one", "other"] (liftSp sp_taken_less) := by
  refine F.ok sc_taken_less (lift_len (by rintro us M Q h; obtain ⟨_, _, rfl, _⟩ := h; rfl)) (fun cdv A outer s H vs Q E hr h => ?_)
  refine def_ok ((ls_ret (le_op lr_sub (le_var (i := 0)) (le_var (i := 1)))))
    ((pss_one (ps_ret (pe_op op_sub (pv 0) (pv 1)))))
    h (fun us M Qu hd => ?_)
  obtain ⟨a, b, rfl, rfl, k⟩ := hd
  walk_at "go"
  exact fin_d0 k
/-! ### together -/
abbrev s_together : Stmt := top 10
theorem sc_together : FnScope ["one", "other"] ["one", "other"] (defScope s_together) := ⟨rfl, rfl, rfl, by decide +kernel, rfl, by decide +kernel, by decide +kernel⟩
theorem ok_together {f : Addr} {fd : FuncData} (F : Fun K "together" "together" s_together f fd) (B : Bln mg) (G : Gln w K mg)
    : FnOk P w K mg base CX0 1 f fd ["one", "other"] (liftSp sp_together) := by
  refine F.ok sc_together (lift_len (by rintro us M Q h; obtain ⟨_, _, rfl, _⟩ := h; rfl)) (fun cdv A outer s H vs Q E hr h => ?_)
  refine def_ok ((ls_ret (le_op (lr_add (K := K)) (le_var (i := 0)) (le_var (i := 1)))))
    ((pss_one (ps_ret (pe_op (x_add (K := K) rfl) (pv 0) (pv 1)))))
    h (fun us M Qu hd => ?_)
  obtain ⟨a, b, rfl, rfl, k⟩ := hd
  walk_at "go"
  exact fin_d0 k
/-! ### times -/
abbrev s_times : Stmt := top 11
theorem sc_times : FnScope ["one", "other"] ["one", "other"] (defScope s_times) := ⟨rfl, rfl, rfl, by decide +kernel, rfl, by decide +kernel, by decide +kernel⟩
theorem ok_times {f : Addr} {fd : FuncData} (F : Fun K "times" "times" s_times f fd) (B : Bln mg) (G : Gln w K mg)
    : FnOk P w K mg base CX0 1 f fd ["one", "other"] (liftSp sp_times) := by
  refine F.ok sc_times (lift_len (by rintro us M Q h; obtain ⟨_, _, rfl, _⟩ := h; rfl)) (fun cdv A outer s H vs Q E hr h => ?_)
  refine def_ok ((ls_ret (le_op lr_mulA (le_var (i := 0)) (le_var (i := 1)))))
    ((pss_one (ps_ret (pe_op op_mulAll (pv 0) (pv 1)))))
    h (fun us M Qu hd => ?_)
  obtain ⟨a, b, rfl, rfl, ha, k⟩ := hd
  walk_at "go"
  refine ⟨_, _, _, _, rfl, rfl, rfl, .inl ⟨by omega, by omega⟩, ?_⟩
  exact fin_d0 k
/-! ### bits_both -/
abbrev s_bits_both : Stmt := top 12
theorem sc_bits_both : FnScope ["one", "other"] ["one", "other"] (defScope s_bits_both) := ⟨rfl, rfl, rfl, by decide +kernel, rfl, by decide +kernel, by decide +kernel⟩
theorem ok_bits_both {f : Addr} {fd : FuncData} (F : Fun K "bits_both" "bits_both" s_bits_both f fd) (B : Bln mg) (G : Gln w K mg)
    : FnOk P w K mg base CX0 1 f fd ["one", "other"] (liftSp sp_bits_both) := by
  refine F.ok sc_bits_both (lift_len (by rintro us M Q h; obtain ⟨_, _, rfl, _⟩ := h; rfl)) (fun cdv A outer s H vs Q E hr h => ?_)
  refine def_ok ((ls_ret (le_op lr_andI (le_var (i := 0)) (le_var (i := 1)))))
    ((pss_one (ps_ret (pe_op op_and (pv 0) (pv 1)))))
    h (fun us M Qu hd => ?_)
  obtain ⟨a, b, rfl, rfl, k⟩ := hd
  walk_at "go"
  exact fin_d0 k
/-! ### bits_any -/
abbrev s_bits_any : Stmt := top 13
theorem sc_bits_any : FnScope ["one", "other"] ["one", "other"] (defScope s_bits_any) := ⟨rfl, rfl, rfl, by decide +kernel, rfl, by decide +kernel, by decide +kernel⟩
theorem ok_bits_any {f : Addr} {fd : FuncData} (F : Fun K "bits_any" "bits_any" s_bits_any f fd) (B : Bln mg) (G : Gln w K mg)
    : FnOk P w K mg base CX0 1 f fd ["one", "other"] (liftSp sp_bits_any) := by
  refine F.ok sc_bits_any (lift_len (by rintro us M Q h; obtain ⟨_, _, rfl, _⟩ := h; rfl)) (fun cdv A outer s H vs Q E hr h => ?_)
  refine def_ok ((ls_ret (le_op lr_orI (le_var (i := 0)) (le_var (i := 1)))))
    ((pss_one (ps_ret (pe_op op_or (pv 0) (pv 1)))))
    h (fun us M Qu hd => ?_)
  obtain ⟨a, b, rfl, rfl, k⟩ := hd
  walk_at "go"
  exact fin_d0 k
/-! ### bits_unlike -/
abbrev s_bits_unlike : Stmt := top 14
theorem sc_bits_unlike : FnScope ["one", "other"] ["one", "other"] (defScope s_bits_unlike) := ⟨rfl, rfl, rfl, by decide +kernel, rfl, by decide +kernel, by decide +kernel⟩
theorem ok_bits_unlike {f : Addr} {fd : FuncData} (F : Fun K "bits_unlike" "bits_unlike" s_bits_unlike f fd) (B : Bln mg) (G : Gln w K mg)
    : FnOk P w K mg base CX0 1 f fd ["one", "other"] (liftSp sp_bits_unlike) := by
  refine F.ok sc_bits_unlike (lift_len (by rintro us M Q h; obtain ⟨_, _, rfl, _⟩ := h; rfl)) (fun cdv A outer s H vs Q E hr h => ?_)
  refine def_ok ((ls_ret (le_op lr_xorI (le_var (i := 0)) (le_var (i := 1)))))
    ((pss_one (ps_ret (pe_op op_xor (pv 0) (pv 1)))))
    h (fun us M Qu hd => ?_)
  obtain ⟨a, b, rfl, rfl, k⟩ := hd
  walk_at "go"
  exact fin_d0 k
/-! ### contrary -/
abbrev s_contrary : Stmt := top 15
theorem sc_contrary : FnScope ["one"] ["one"] (defScope s_contrary) := ⟨rfl, rfl, rfl, by decide +kernel, rfl, by decide +kernel, by decide +kernel⟩
theorem ok_contrary {f : Addr} {fd : FuncData} (F : Fun K "contrary" "contrary" s_contrary f fd) (B : Bln mg) (G : Gln w K mg)
    : FnOk P w K mg base CX0 1 f fd ["one"] (liftSp sp_contrary) := by
  refine F.ok sc_contrary (lift_len (by rintro us M Q h; obtain ⟨_, rfl, _⟩ := h; rfl)) (fun cdv A outer s H vs Q E hr h => ?_)
  refine def_ok ((ls_ret (le_un lu_neg (le_var (i := 0)))))
    ((pss_one (ps_ret (pe_un un_neg (pv 0)))))
    h (fun us M Qu hd => ?_)
  obtain ⟨a, rfl, rfl, k⟩ := hd
  walk_at "go"
  exact fin_d0 k
/-! ### turned_bits -/
abbrev s_turned_bits : Stmt := top 16
theorem sc_turned_bits : FnScope ["one"] ["one"] (defScope s_turned_bits) := ⟨rfl, rfl, rfl, by decide +kernel, rfl, by decide +kernel, by decide +kernel⟩
theorem ok_turned_bits {f : Addr} {fd : FuncData} (F : Fun K "turned_bits" "turned_bits" s_turned_bits f fd) (B : Bln mg) (G : Gln w K mg)
    : FnOk P w K mg base CX0 1 f fd ["one"] (liftSp sp_turned_bits) := by
  obtain ⟨gt_MOST_WORD, gm_MOST_WORD⟩ := G.MOST_WORD
  refine F.ok sc_turned_bits (lift_len (by rintro us M Q h; obtain ⟨_, rfl, _⟩ := h; rfl)) (fun cdv A outer s H vs Q E hr h => ?_)
  refine def_ok ((ls_ret (le_op lr_sub le_int (le_var (i := 0)))))
    ((pss_one (ps_ret (pe_op op_sub (pe_glob (by rfl) gm_MOST_WORD ⟨_, rfl⟩) (pv 0)))))
    h (fun us M Qu hd => ?_)
  obtain ⟨a, rfl, rfl, k⟩ := hd
  walk_at "go"
  exact fin_d0 k
/-! ### State___init__ -/
abbrev s_State___init__ : Stmt := inClass (top 19) 0
theorem sc_State___init__ : FnScope ["self"] ["self"] (defScope s_State___init__) := ⟨rfl, rfl, rfl, by decide +kernel, rfl, by decide +kernel, by decide +kernel⟩
theorem ok_State___init__ {f : Addr} {fd : FuncData} (F : Fun K "__init__" "State.__init__" s_State___init__ f fd) (B : Bln mg) (G : Gln w K mg) {C_State : Addr} (T_State : Tc_State K mg C_State)
    : FnOk P w K mg base CX0 1 f fd ["self"] (liftSp (sp_State___init__ C_State)) := by
  obtain ⟨gt_CELLS, gm_CELLS⟩ := G.CELLS
  refine F.ok sc_State___init__ (lift_len (by rintro us M Q h; obtain ⟨rfl, _⟩ := h; rfl)) (fun cdv A outer s H vs Q E hr h => ?_)
  refine def_ok ((ls_seq (ls_setF T_State.cl T_State.n_cells (le_var (i := 0)) (le_op lr_mulC (le_lst (la_cons le_int la_nil)) le_int))
      (ls_setF T_State.cl T_State.n_named (le_var (i := 0)) le_dnewK)))
    ((pss_cons (ps_fld (pv 0) (pe_op op_mulAll (pe_lst (pa_cons pe_int pa_nil)) (pe_glob (by rfl) gm_CELLS ⟨_, rfl⟩)) rfl)
      (pss_one (ps_fld (pv 0) pe_dnewK rfl))))
    h (fun us M Qu hd => ?_)
  obtain ⟨rfl, rfl, k⟩ := hd
  walk_at "go"
  refine ⟨by decide, by decide, by decide, ?_⟩
  walk_at "go"
  show Fin' _ Qu _ [stI C_State, .lst (intL (List.replicate 64 0)), .dic []]
  exact .inl ⟨3, (by show (1 : Nat) ≤ 3; decide), Nat.le_refl _, trivial, okS (Nat.le_refl _), k⟩
/-! ### State_cell -/
abbrev s_State_cell : Stmt := inClass (top 19) 1
theorem sc_State_cell : FnScope ["self", "at"] ["self", "at"] (defScope s_State_cell) := ⟨rfl, rfl, rfl, by decide +kernel, rfl, by decide +kernel, by decide +kernel⟩
theorem ok_State_cell {f : Addr} {fd : FuncData} (F : Fun K "cell" "State.cell" s_State_cell f fd) (B : Bln mg) (G : Gln w K mg) {C_State : Addr} (T_State : Tc_State K mg C_State)
    : FnOk P w K mg base CX0 1 f fd ["self", "at"] (liftSp (sp_State_cell C_State)) := by
  refine F.ok sc_State_cell (lift_len (by rintro us M Q h; obtain ⟨_, _, _, rfl, _⟩ := h; rfl)) (fun cdv A outer s H vs Q E hr h => ?_)
  refine def_ok ((ls_ret (le_op (lr_ix (K := K)) (le_fld T_State.cl T_State.n_cells (le_var (i := 0))) (le_var (i := 1)))))
    ((pss_one (ps_ret (pe_ix (x_ix (K := K) rfl) (pe_fld (pv 0) rfl) (pv 1) (fun _ _ => rfl)))))
    h (fun us M Qu hd => ?_)
  obtain ⟨ws, kvs, i, rfl, rfl, h0, h1, k⟩ := hd
  walk_at "go"
  refine ⟨_, _, _, rfl, rfl, cells_at h0 h1, ?_⟩
  exact fin_S k
/-! ### State_put -/
abbrev s_State_put : Stmt := inClass (top 19) 2
theorem sc_State_put : FnScope ["self", "at", "word"] ["self", "at", "word"] (defScope s_State_put) := ⟨rfl, rfl, rfl, by decide +kernel, rfl, by decide +kernel, by decide +kernel⟩
theorem ok_State_put {f : Addr} {fd : FuncData} (F : Fun K "put" "State.put" s_State_put f fd) (B : Bln mg) (G : Gln w K mg) {C_State : Addr} (T_State : Tc_State K mg C_State)
    : FnOk P w K mg base CX0 1 f fd ["self", "at", "word"] (liftSp (sp_State_put C_State)) := by
  refine F.ok sc_State_put (lift_len (by rintro us M Q h; obtain ⟨_, _, _, _, rfl, _⟩ := h; rfl)) (fun cdv A outer s H vs Q E hr h => ?_)
  refine def_ok ((ls_asg (le_var (i := 2)) (lg_sub (le_fld T_State.cl T_State.n_cells (le_var (i := 0))) (le_var (i := 1)) lset_list)))
    ((pss_one (ps_asg (pv 2) (pg_sub (pe_fld (pv 0) rfl) (pv 1) set_list (fun _ => rfl)))))
    h (fun us M Qu hd => ?_)
  obtain ⟨ws, kvs, i, w, rfl, rfl, h0, h1, k⟩ := hd
  walk_at "go"
  refine ⟨_, _, _, _, _, rfl, rfl, rfl, rfl, ix_at h0 (by rw [show (intL ws).length = ws.length from List.length_map _]; exact h1), ?_⟩
  rw [set_intL]
  exact fin_S k
/-! ### State_word -/
abbrev s_State_word : Stmt := inClass (top 19) 3
theorem sc_State_word : FnScope ["self", "name"] ["self", "name"] (defScope s_State_word) := ⟨rfl, rfl, rfl, by decide +kernel, rfl, by decide +kernel, by decide +kernel⟩
theorem ok_State_word {f : Addr} {fd : FuncData} (F : Fun K "word" "State.word" s_State_word f fd) (B : Bln mg) (G : Gln w K mg) {C_State : Addr} (T_State : Tc_State K mg C_State)
    : FnOk P w K mg base CX0 1 f fd ["self", "name"] (liftSp (sp_State_word C_State)) := by
  refine F.ok sc_State_word (lift_len (by rintro us M Q h; obtain ⟨_, _, _, rfl, _⟩ := h; rfl)) (fun cdv A outer s H vs Q E hr h => ?_)
  refine def_ok ((ls_ret (le_dget2 (le_fld T_State.cl T_State.n_named (le_var (i := 0))) (le_var (i := 1)) le_int)))
    ((pss_one (ps_ret (pe_dget2 (hu_of hr) (pe_fld (pv 0) rfl) (pv 1) pe_int ⟨by rfl, by rfl, by rfl, by rfl⟩))))
    h (fun us M Qu hd => ?_)
  obtain ⟨ws, kvs, s, rfl, rfl, hk, k⟩ := hd
  walk_at "go"
  refine ⟨fun d hd => ?_, fun hn => ?_⟩
  · rcases nums_val hk s with e | ⟨w, e, hw⟩
    · rw [e] at hd; cases hd
    · have e2 : nat_ kvs s = w := by unfold nat_; rw [e]
      rw [e] at hd; cases hd
      rw [e2] at k
      exact fin_S k
  · have e2 : nat_ kvs s = 0 := by unfold nat_; rw [hn]
    rw [e2] at k
    exact fin_S k
/-! ### State_give -/
abbrev s_State_give : Stmt := inClass (top 19) 4
theorem sc_State_give : FnScope ["self", "name", "word"] ["self", "name", "word"] (defScope s_State_give) := ⟨rfl, rfl, rfl, by decide +kernel, rfl, by decide +kernel, by decide +kernel⟩
theorem ok_State_give {f : Addr} {fd : FuncData} (F : Fun K "give" "State.give" s_State_give f fd) (B : Bln mg) (G : Gln w K mg) {C_State : Addr} (T_State : Tc_State K mg C_State)
    : FnOk P w K mg base CX0 1 f fd ["self", "name", "word"] (liftSp (sp_State_give C_State)) := by
  refine F.ok sc_State_give (lift_len (by rintro us M Q h; obtain ⟨_, _, _, _, rfl, _⟩ := h; rfl)) (fun cdv A outer s H vs Q E hr h => ?_)
  refine def_ok ((ls_if (lt_and (lt_test (le_op (lr_eq (K := K)) (le_var (i := 2)) le_int)) (lt_B (le_din (le_var (i := 1)) (le_fld T_State.cl T_State.n_named (le_var (i := 0)))))) (ls_ddel (le_fld T_State.cl T_State.n_named (le_var (i := 0))) (le_var (i := 1))) (ls_if (lt_test (le_op (lr_ne (K := K)) (le_var (i := 2)) le_int)) (ls_dput (le_fld T_State.cl T_State.n_named (le_var (i := 0))) (le_var (i := 1)) (le_var (i := 2))) ls_next)))
    ((pss_one (ps_if (PW.pt (pw_and (pt_cmpR (x_eq (K := K) rfl (hu64 hr)) (pv 2) pe_int (by first | exact nomark _ | rfl)) (pw_and1 (pt_cmp (pc_din (hu_of hr) (pv 1) (pe_fld (pv 0) rfl)))))) (pss_one (ps_ddel (pe_fld (pv 0) rfl) (pv 1))) (pss_one (ps_if (pt_cmpR (x_ne (K := K) rfl (hu64 hr)) (pv 2) pe_int (by first | exact nomark _ | rfl)) (pss_one (ps_dput (hu_of hr) (pe_fld (pv 0) rfl) (pv 1) (pv 2) rfl)) pss_nil)))))
    h (fun us M Qu hd => ?_)
  obtain ⟨ws, kvs, s, w, rfl, rfl, hl, k⟩ := hd
  walk_at "go"
  rw [eqv_i]
  refine witeD (fun h0 => ?_) (fun h0 => ?_)
  · subst h0
    walk_at "go"
    cases hv : valD kvs (.inr s) with
    | none =>
      refine ⟨_, _, _, _, rfl, rfl, rfl, rfl, ?_⟩
      rw [hv]
      walk_at "go"
      have e : giveD kvs s 0 = kvs := by unfold giveD; rw [if_pos rfl, drop_out hv]
      rw [e] at k
      exact fin_S k
    | some d =>
      refine ⟨_, _, _, _, rfl, rfl, rfl, rfl, ?_⟩
      rw [hv]
      walk_at "go"
      refine ⟨_, _, _, _, rfl, rfl, rfl, rfl, (by rw [hv]; rfl), ?_⟩
      have e : giveD kvs s 0 = dropD kvs (.inr s) := by unfold giveD; rw [if_pos rfl]
      rw [e] at k
      exact fin_S k
  · walk_at "go"
    rw [eqv_i, decide_eq_false h0]
    walk_at "go"
    have hsl : 1000000 ≤ sizeLine := by decide
    refine ⟨_, _, _, _, _, rfl, rfl, rfl, rfl, rfl, (by omega), ?_⟩
    have e : giveD kvs s w = putD kvs (.inr s) (.int w) := by unfold giveD; rw [if_neg h0]
    rw [e] at k
    exact fin_S k
/-! ### State_copied -/
abbrev s_State_copied : Stmt := inClass (top 19) 5
theorem sc_State_copied : FnScope ["self", "found", "name", "word"] ["self"] (defScope s_State_copied) := ⟨rfl, rfl, rfl, by decide +kernel, rfl, by decide +kernel, by decide +kernel⟩
theorem ok_State_copied {f : Addr} {fd : FuncData} (F : Fun K "copied" "State.copied" s_State_copied f fd) (B : Bln mg) (G : Gln w K mg) {C_State : Addr} (T_State : Tc_State K mg C_State)
    {f_State___init__ : Addr} {fd_State___init__ : FuncData} (g_State___init__ : FnOk P w K mg base CX0 1 f_State___init__ fd_State___init__ ["self"] (liftSp (sp_State___init__ C_State))) (M_State : Mk K C_State f_State___init__) (k_State___init__ : PySem.W.keepIn K (.ref f_State___init__) = true) (b_State___init__ : Binds K fd_State___init__ ["self"] [])
    : FnOk P w K mg base CX0 3 f fd ["self"] (liftSp (sp_State_copied C_State)) := by
  refine F.ok sc_State_copied (lift_len (by rintro us M Q h; obtain ⟨_, _, rfl, _⟩ := h; rfl)) (fun cdv A outer s H vs Q E hr h => ?_)
  refine def_ok ((ls_seq (ls_asg (le_make (dv := []) (fun _ => .nil) la_nil) (lg_name (i := 1)))
      (ls_seq (ls_setF T_State.cl T_State.n_cells (le_var (i := 1)) (le_cb (lc_listOfC (K := K)) (la_cons (le_fld T_State.cl T_State.n_cells (le_var (i := 0))) la_nil)))
      (ls_seq (ls_setF T_State.cl T_State.n_named (le_var (i := 1)) (le_lockE (le_dc (li_items (le_fld T_State.cl T_State.n_named (le_var (i := 0)))) (lgv_tup (K := K) (n := 2) (lgvs_cons (lgv_name (i := 2) (by decide)) (lgvs_cons (lgv_name (i := 3) (by decide)) lgvs_nil))) lt_yes (le_var (i := 2)) (le_var (i := 3)))))
      (ls_ret (le_var (i := 1)))))))
    ((pss_cons (ps_set (i := 1) sc_State_copied.nd rfl (Or.inl rfl) (pe_make0 M_State g_State___init__ (hr.mono (by omega)) (by rfl) T_State.mgC b_State___init__ .nil pass0))
      (pss_cons (ps_fld (pv 1) (pe_callTy (x_listOf (K := K) rfl) (by rfl) B.list_ bt_list (pa_cons (pe_fld (pv 0) rfl) pa_nil)) rfl)
      (pss_cons (ps_fld (pv 1) (pe_lock (pe_dc (own := [("name", 2), ("word", 3)]) rfl sc_State_copied.nd (pi_items (pe_fld (pv 0) rfl)) (blkOk_by (N := ["self", "found", "name", "word"]) (sc := defScope s_State_copied) (by decide +kernel)) (fun _ _ _ _ _ => (pg_tup rfl (pgs_cons (pg_name (i := 2) sc_State_copied.nd rfl (Or.inl rfl)) (pgs_cons (pg_name (i := 3) sc_State_copied.nd rfl (Or.inl rfl)) pgs_nil)))) (fun _ _ _ _ _ => pts_nil) (fun _ _ _ _ _ => (pv 2)) (fun _ _ _ _ _ => (pv 3)))) rfl)
      (pss_one (ps_ret (pv 1)))))))
    h (fun us M Qu hd => ?_)
  obtain ⟨ws, kvs, rfl, rfl, hl, hl2, ⟨hk, hnd⟩, k⟩ := hd
  walk_at "go"
  have hsl : 1000000 ≤ sizeLine := by decide
  refine ⟨2, kvs, rfl, nums_flat hk, fun od => ?_⟩
  walk_at "go"
  refine ⟨_, _, _, rfl, rfl, nums_flat hk, ?_⟩
  refine wLcGo_rec (fun us acc M => ∃ dn rs : KV, us = itemsU rs ∧ acc = itemsU dn ∧ dn ++ rs = kvs ∧ M = [stI C_State, .lst (intL ws), .lkd kvs od, .ins C_State [("cells", .p 6), ("named", .p 5)], .lst (intL (List.replicate 64 0)), .dic [], .lst (intL ws)]) ?_ ?_ _ _ _ ⟨[], kvs, rfl, rfl, rfl, rfl⟩
  · rintro acc M ⟨dn, rs, hu, rfl, he, rfl⟩
    have hr0 : rs = [] := by cases rs with
      | nil => rfl
      | cons p ps => simp [itemsU] at hu
    subst hr0
    rw [List.append_nil] at he
    subst he
    refine ⟨rfl, dn, rfl, ?_⟩
    walk_at "go"
    rw [merge_self hnd]
    refine .inr ⟨[0, 1, 2, 3, 6, 7], [3, 6, 7], rfl, by decide, ?_, ?_, ?_, k⟩
    · show ∀ i ∈ [0, 1, 2, 3, 6, 7], i < 8; decide
    · show 3 ∈ [0, 1, 2, 3, 6, 7]; decide
    · intro i hi
      simp only [List.mem_cons, List.not_mem_nil, or_false] at hi
      rcases hi with rfl | rfl | rfl | rfl | rfl | rfl
      · intro p hp
        simp only [List.mem_cons, List.not_mem_nil, or_false] at hp
        rcases hp with rfl | rfl
        · show 1 ∈ [0, 1, 2, 3, 6, 7]; decide
        · show 2 ∈ [0, 1, 2, 3, 6, 7]; decide
      · exact trivial
      · exact trivial
      · intro p hp
        have hp' : p ∈ [(Str.ofString "cells", U.p 6), (Str.ofString "named", U.p 7)] := hp
        simp only [List.mem_cons, List.not_mem_nil, or_false] at hp'
        rcases hp' with rfl | rfl
        · show 6 ∈ [0, 1, 2, 3, 6, 7]; decide
        · show 7 ∈ [0, 1, 2, 3, 6, 7]; decide
      · exact trivial
      · exact trivial
  · rintro u us ih acc M ⟨dn, rs, hu, rfl, he, rfl⟩
    cases rs with
    | nil => simp [itemsU] at hu
    | cons p ps =>
      obtain ⟨t, w, hp, hw, ht⟩ := hk p (by rw [← he]; exact List.mem_append.mpr (.inr List.mem_cons_self))
      subst hp
      have hu' : u = .d (.tuple [.str t, .int w]) ∧ us = itemsU ps := by
        unfold itemsU at hu ⊢
        rw [List.map_cons] at hu
        exact ⟨(List.cons.inj hu).1, (List.cons.inj hu).2⟩
      obtain ⟨rfl, rfl⟩ := hu'
      refine ⟨rfl, ?_⟩
      walk_at "go"
      refine ⟨.inr t, _, rfl, rfl, ?_, ?_⟩
      · unfold itemsU
        rw [List.length_map]
        have : dn.length + (ps.length + 1) = kvs.length := by rw [← he, List.length_append, List.length_cons]
        omega
      refine ih _ _ ⟨dn ++ [(.inr t, .int w)], ps, rfl, ?_, by rw [List.append_assoc]; exact he, rfl⟩
      unfold itemsU
      rw [List.map_append]; rfl


/-! ### State___eq__ -/
abbrev s_State___eq__ : Stmt := inClass (top 19) 6
theorem sc_State___eq__ : FnScope ["self", "other"] ["self", "other"] (defScope s_State___eq__) := ⟨rfl, rfl, rfl, by decide +kernel, rfl, by decide +kernel, by decide +kernel⟩
theorem ok_State___eq__ {f : Addr} {fd : FuncData} (F : Fun K "__eq__" "State.__eq__" s_State___eq__ f fd) (B : Bln mg) (G : Gln w K mg) {C_State : Addr} (T_State : Tc_State K mg C_State)
    : FnOk P w K mg base CX0 1 f fd ["self", "other"] (liftSp (sp_State___eq__ C_State)) := by
  refine F.ok sc_State___eq__ (lift_len (by rintro us M Q h; obtain ⟨_, _, _, _, rfl, _⟩ := h; rfl)) (fun cdv A outer s H vs Q E hr h => ?_)
  refine def_ok ((ls_ret (le_and (le_isC (C := C_State) (le_var (i := 1))) (le_and (le_op (lr_eq (K := K)) (le_fld T_State.cl T_State.n_cells (le_var (i := 0))) (le_fld T_State.cl T_State.n_cells (le_var (i := 1)))) (le_op lr_eqDic (le_fld T_State.cl T_State.n_named (le_var (i := 0))) (le_fld T_State.cl T_State.n_named (le_var (i := 1))))))))
    ((pss_one (ps_ret (pe_and (pe_callB (C8.call_isC T_State.isC) (by rfl) B.isinstance_ bt_isinstance (pa_cons (pv 1) (pa_cons (pe_glob (by rfl) T_State.mgC (v := .ref C_State) rfl) pa_nil))) (pe_and (pe_cmpR (x_eq (K := K) rfl (hu64 hr)) (pe_fld (pv 0) rfl) (pe_fld (pv 1) rfl) (by first | exact nomark _ | rfl)) (pe_one (pe_cmpR (op_eq_dictA hr.units0) (pe_fld (pv 0) rfl) (pe_fld (pv 1) rfl) (by first | exact nomark _ | rfl))))))))
    h (fun us M Qu hd => ?_)
  obtain ⟨cs, cs2, kvs, kvs2, rfl, rfl, hl, hl2, hk, k⟩ := hd
  walk_at "go"
  refine ⟨_, _, _, _, rfl, rfl, rfl, .inr ⟨shaped_intL _, shaped_intL _⟩, ?_⟩
  rw [eqvL_intL]
  rcases k with ⟨hne, k⟩ | ⟨rfl, hs, k⟩
  · rw [decide_eq_false hne]
    walk_at "go"
    exact .inl ⟨6, Nat.le_refl _, Nat.le_refl _, trivial, okE6, k⟩
  · rw [decide_eq_true rfl]
    walk_at "go"
    refine ⟨_, _, _, _, rfl, rfl, rfl, rfl, hs.1, nums_flat hk, hs.2, ?_⟩
    exact .inl ⟨6, Nat.le_refl _, Nat.le_refl _, trivial, okE6, k⟩

/-! ### part_word -/
abbrev s_part_word : Stmt := top 20
theorem sc_part_word : FnScope ["op", "mark", "words", "state", "turn", "join"] ["op", "mark", "words", "state"] (defScope s_part_word) := ⟨rfl, rfl, rfl, by decide +kernel, rfl, by decide +kernel, by decide +kernel⟩
theorem ok_part_word {f : Addr} {fd : FuncData} (F : Fun K "part_word" "part_word" s_part_word f fd) (B : Bln mg) (G : Gln w K mg) {C_State : Addr} (T_State : Tc_State K mg C_State)
    {f_State_word : Addr} {fd_State_word : FuncData} (g_State_word : FnOk P w K mg base CX0 1 f_State_word fd_State_word ["self", "name"] (liftSp (sp_State_word C_State))) (mt_State_word : Meth K C_State "word" f_State_word) (k_State_word : PySem.W.keepIn K (.ref f_State_word) = true) (b_State_word : Binds K fd_State_word ["self", "name"] [])
    {f_State_cell : Addr} {fd_State_cell : FuncData} (g_State_cell : FnOk P w K mg base CX0 1 f_State_cell fd_State_cell ["self", "at"] (liftSp (sp_State_cell C_State))) (mt_State_cell : Meth K C_State "cell" f_State_cell) (k_State_cell : PySem.W.keepIn K (.ref f_State_cell) = true) (b_State_cell : Binds K fd_State_cell ["self", "at"] [])
    {f_contrary : Addr} {fd_contrary : FuncData} (g_contrary : FnOk P w K mg base CX0 1 f_contrary fd_contrary ["one"] (liftSp sp_contrary)) (m_contrary : mg "contrary" = some (.ref f_contrary)) (k_contrary : PySem.W.keepIn K (.ref f_contrary) = true) (b_contrary : Binds K fd_contrary ["one"] [])
    {f_turned_bits : Addr} {fd_turned_bits : FuncData} (g_turned_bits : FnOk P w K mg base CX0 1 f_turned_bits fd_turned_bits ["one"] (liftSp sp_turned_bits)) (m_turned_bits : mg "turned_bits" = some (.ref f_turned_bits)) (k_turned_bits : PySem.W.keepIn K (.ref f_turned_bits) = true) (b_turned_bits : Binds K fd_turned_bits ["one"] [])
    {f_together : Addr} {fd_together : FuncData} (g_together : FnOk P w K mg base CX0 1 f_together fd_together ["one", "other"] (liftSp sp_together)) (m_together : mg "together" = some (.ref f_together)) (k_together : PySem.W.keepIn K (.ref f_together) = true) (b_together : Binds K fd_together ["one", "other"] [])
    {f_taken_less : Addr} {fd_taken_less : FuncData} (g_taken_less : FnOk P w K mg base CX0 1 f_taken_less fd_taken_less ["one", "other"] (liftSp sp_taken_less)) (m_taken_less : mg "taken_less" = some (.ref f_taken_less)) (k_taken_less : PySem.W.keepIn K (.ref f_taken_less) = true) (b_taken_less : Binds K fd_taken_less ["one", "other"] [])
    {f_times : Addr} {fd_times : FuncData} (g_times : FnOk P w K mg base CX0 1 f_times fd_times ["one", "other"] (liftSp sp_times)) (m_times : mg "times" = some (.ref f_times)) (k_times : PySem.W.keepIn K (.ref f_times) = true) (b_times : Binds K fd_times ["one", "other"] [])
    {f_bits_both : Addr} {fd_bits_both : FuncData} (g_bits_both : FnOk P w K mg base CX0 1 f_bits_both fd_bits_both ["one", "other"] (liftSp sp_bits_both)) (m_bits_both : mg "bits_both" = some (.ref f_bits_both)) (k_bits_both : PySem.W.keepIn K (.ref f_bits_both) = true) (b_bits_both : Binds K fd_bits_both ["one", "other"] [])
    {f_bits_any : Addr} {fd_bits_any : FuncData} (g_bits_any : FnOk P w K mg base CX0 1 f_bits_any fd_bits_any ["one", "other"] (liftSp sp_bits_any)) (m_bits_any : mg "bits_any" = some (.ref f_bits_any)) (k_bits_any : PySem.W.keepIn K (.ref f_bits_any) = true) (b_bits_any : Binds K fd_bits_any ["one", "other"] [])
    {f_bits_unlike : Addr} {fd_bits_unlike : FuncData} (g_bits_unlike : FnOk P w K mg base CX0 1 f_bits_unlike fd_bits_unlike ["one", "other"] (liftSp sp_bits_unlike)) (m_bits_unlike : mg "bits_unlike" = some (.ref f_bits_unlike)) (k_bits_unlike : PySem.W.keepIn K (.ref f_bits_unlike) = true) (b_bits_unlike : Binds K fd_bits_unlike ["one", "other"] [])
    (gx_OF_ONE : ∃ a, mg "OF_ONE" = some (.ref a) ∧ WrDf K w a [("neg", f_contrary), ("not", f_turned_bits)]) (nd_OF_ONE : ([f_contrary, f_turned_bits] : List Addr).Nodup)
    (gx_OF_TWO : ∃ a, mg "OF_TWO" = some (.ref a) ∧ WrDf K w a [("add", f_together), ("sub", f_taken_less), ("mul", f_times), ("and", f_bits_both), ("or", f_bits_any), ("xor", f_bits_unlike)]) (nd_OF_TWO : ([f_together, f_taken_less, f_times, f_bits_both, f_bits_any, f_bits_unlike] : List Addr).Nodup)
    : FnOk P w K mg base CX0 2 f fd ["op", "mark", "words", "state"] (liftSp (sp_part_word C_State)) := by
  obtain ⟨gt_CELLS, gm_CELLS⟩ := G.CELLS
  obtain ⟨gt_WORDS, gm_WORDS⟩ := G.WORDS
  obtain ⟨ga_OF_ONE, gm_OF_ONE, gw_OF_ONE⟩ := gx_OF_ONE
  obtain ⟨ga_OF_TWO, gm_OF_TWO, gw_OF_TWO⟩ := gx_OF_TWO
  refine F.ok sc_part_word (lift_len (by rintro us M Q h; obtain ⟨_, _, _, _, _, rfl, _⟩ := h; rfl)) (fun cdv A outer s H vs Q E hr h => ?_)
  refine def_ok ((ls_seq (ls_if (lt_test (le_op (lr_eq (K := K)) (le_var (i := 0)) le_str)) (ls_ret (le_var (i := 1))) ls_next)
      (ls_seq (ls_if (lt_test (le_op (lr_eq (K := K)) (le_var (i := 0)) le_str)) (ls_ret (le_meth (is := [0, 1, 2]) (dv := []) (fun _ => .nil) (le_var (i := 3)) (la_cons (le_var (i := 1)) la_nil))) ls_next)
      (ls_seq (ls_if (lt_test (le_op (lr_eq (K := K)) (le_var (i := 0)) le_str)) (ls_ret (le_meth (is := [0, 1, 2]) (dv := []) (fun _ => .nil) (le_var (i := 3)) (la_cons (le_op lr_mod (le_op (lr_ix (K := K)) (le_var (i := 2)) le_int) le_int) la_nil))) ls_next)
      (ls_seq (ls_if (lt_test (le_op (lr_inKd gw_OF_ONE) (le_var (i := 0)) le_raw)) (ls_seq (ls_asg (le_op (lr_getKf gw_OF_ONE) le_raw (le_var (i := 0))) (lg_name (i := 4)))
      (ls_ret (le_op lr_mod (le_callA (la_cons (le_op (lr_ix (K := K)) (le_var (i := 2)) le_int) la_nil)) le_int))) ls_next)
      (ls_seq (ls_asg (le_op (lr_getKf gw_OF_TWO) le_raw (le_var (i := 0))) (lg_name (i := 5)))
      (ls_ret (le_op lr_mod (le_callA (la_cons (le_op (lr_ix (K := K)) (le_var (i := 2)) le_int) (la_cons (le_op (lr_ix (K := K)) (le_var (i := 2)) le_int) la_nil))) le_int))))))))
    ((pss_cons (ps_if (pt_cmpR (x_eq (K := K) rfl (hu64 hr)) (pv 0) pe_str (by first | exact nomark _ | rfl)) (pss_one (ps_ret (pv 1))) pss_nil)
      (pss_cons (ps_if (pt_cmpR (x_eq (K := K) rfl (hu64 hr)) (pv 0) pe_str (by first | exact nomark _ | rfl)) (pss_one (ps_ret (pe_meth (pv 3) T_State.cl mt_State_word g_State_word (hr.mono (by omega)) b_State_word .nil pass0 (pa_cons (pv 1) pa_nil)))) pss_nil)
      (pss_cons (ps_if (pt_cmpR (x_eq (K := K) rfl (hu64 hr)) (pv 0) pe_str (by first | exact nomark _ | rfl)) (pss_one (ps_ret (pe_meth (pv 3) T_State.cl mt_State_cell g_State_cell (hr.mono (by omega)) b_State_cell .nil pass0 (pa_cons (pe_op op_mod (pe_ix (x_ix (K := K) rfl) (pv 2) pe_int (fun _ _ => rfl)) (pe_glob (by rfl) gm_CELLS ⟨_, rfl⟩)) pa_nil)))) pss_nil)
      (pss_cons (ps_if (pt_cmpR (x_inKd (K := K) rfl rfl gw_OF_ONE) (pv 0) (pe_glob (by rfl) gm_OF_ONE (v := .ref ga_OF_ONE) rfl) (by first | exact nomark _ | rfl)) (pss_cons (ps_set (i := 4) sc_part_word.nd rfl (Or.inl rfl) (pe_ix (x_ixKd (K := K) rfl rfl) (pe_glob (by rfl) gm_OF_ONE (v := .ref ga_OF_ONE) rfl) (pv 0) (fun _ _ => rfl)))
      (pss_one (ps_ret (pe_op op_mod (pe_callA (i := 4) (S := tblS [(f_contrary, sp_contrary), (f_turned_bits, sp_turned_bits)]) (tblS_cons ⟨⟨_, _, g_contrary, k_contrary, b_contrary⟩⟩ (tblS_cons ⟨⟨_, _, g_turned_bits, k_turned_bits, b_turned_bits⟩⟩ tblS_nil)) (hr.mono (by omega)) rfl (Or.inl rfl) (pa_cons (pe_ix (x_ix (K := K) rfl) (pv 2) pe_int (fun _ _ => rfl)) pa_nil)) (pe_glob (by rfl) gm_WORDS ⟨_, rfl⟩))))) pss_nil)
      (pss_cons (ps_set (i := 5) sc_part_word.nd rfl (Or.inl rfl) (pe_ix (x_ixKd (K := K) rfl rfl) (pe_glob (by rfl) gm_OF_TWO (v := .ref ga_OF_TWO) rfl) (pv 0) (fun _ _ => rfl)))
      (pss_one (ps_ret (pe_op op_mod (pe_callA (i := 5) (S := tblS [(f_together, sp_together), (f_taken_less, sp_taken_less), (f_times, sp_times), (f_bits_both, sp_bits_both), (f_bits_any, sp_bits_any), (f_bits_unlike, sp_bits_unlike)]) (tblS_cons ⟨⟨_, _, g_together, k_together, b_together⟩⟩ (tblS_cons ⟨⟨_, _, g_taken_less, k_taken_less, b_taken_less⟩⟩ (tblS_cons ⟨⟨_, _, g_times, k_times, b_times⟩⟩ (tblS_cons ⟨⟨_, _, g_bits_both, k_bits_both, b_bits_both⟩⟩ (tblS_cons ⟨⟨_, _, g_bits_any, k_bits_any, b_bits_any⟩⟩ (tblS_cons ⟨⟨_, _, g_bits_unlike, k_bits_unlike, b_bits_unlike⟩⟩ tblS_nil)))))) (hr.mono (by omega)) rfl (Or.inl rfl) (pa_cons (pe_ix (x_ix (K := K) rfl) (pv 2) pe_int (fun _ _ => rfl)) (pa_cons (pe_ix (x_ix (K := K) rfl) (pv 2) pe_int (fun _ _ => rfl)) pa_nil))) (pe_glob (by rfl) gm_WORDS ⟨_, rfl⟩))))))))))
    h (fun us M Qu hd => ?_)
  obtain ⟨op, mark, ws, cells, kvs, rfl, rfl, hk, hl, hw, ho, k⟩ := hd
  rcases ho with ⟨rfl, m, rfl, hm⟩ | ⟨rfl, s, rfl⟩ | ⟨ho, hn⟩ | ⟨ho, hn⟩
  · walk_at "go"
    exact fin_S k
  · walk_at "go"
    refine ⟨cells, kvs, s, rfl, rfl, hk, ?_⟩
    exact fin_S k
  · cases ws with
    | nil => cases hn
    | cons a ws =>
      simp only [List.mem_cons, List.not_mem_nil, or_false] at ho
      rcases ho with rfl | rfl | rfl
      · walk_at "go"
        refine ⟨_, _, _, _, rfl, rfl, rfl, (by decide : (0 : Int) < 64), ?_⟩
        walk_at "go"
        refine ⟨cells, kvs, a % 64, rfl, rfl, Int.emod_nonneg _ (by decide), by rw [hl]; exact Int.emod_lt_of_pos _ (by decide), ?_⟩
        exact fin_S k
      · walk_at "go"
        refine ⟨_, _, rfl, lookA_at nd_OF_ONE 0 rfl, ?_⟩
        walk_at "go"
        refine ⟨_, _, _, _, rfl, rfl, rfl, (by decide : (0 : Int) < 65536), ?_⟩
        exact fin_S k
      · walk_at "go"
        refine ⟨_, _, rfl, lookA_at nd_OF_ONE 1 rfl, ?_⟩
        walk_at "go"
        refine ⟨_, _, _, _, rfl, rfl, rfl, (by decide : (0 : Int) < 65536), ?_⟩
        exact fin_S k
  · cases ws with
    | nil => cases hn
    | cons a ws =>
      cases ws with
      | nil => simp at hn
      | cons b ws =>
        simp only [List.mem_cons, List.not_mem_nil, or_false] at ho
        rcases ho with rfl | rfl | rfl | rfl | rfl | rfl
        · walk_at "go"
          refine ⟨_, _, rfl, lookA_at nd_OF_TWO 0 rfl, ?_⟩
          walk_at "go"
          refine ⟨_, _, _, rfl, rfl, ix_l at1, ?_⟩
          walk_at "go"
          refine ⟨_, _, _, _, rfl, rfl, rfl, (by decide : (0 : Int) < 65536), ?_⟩
          exact fin_S k
        · walk_at "go"
          refine ⟨_, _, rfl, lookA_at nd_OF_TWO 1 rfl, ?_⟩
          walk_at "go"
          refine ⟨_, _, _, rfl, rfl, ix_l at1, ?_⟩
          walk_at "go"
          refine ⟨_, _, _, _, rfl, rfl, rfl, (by decide : (0 : Int) < 65536), ?_⟩
          exact fin_S k
        · walk_at "go"
          refine ⟨_, _, rfl, lookA_at nd_OF_TWO 2 rfl, ?_⟩
          walk_at "go"
          refine ⟨_, _, _, rfl, rfl, ix_l at1, ?_⟩
          walk_at "go"
          refine ⟨hw a List.mem_cons_self, ?_⟩
          walk_at "go"
          refine ⟨_, _, _, _, rfl, rfl, rfl, (by decide : (0 : Int) < 65536), ?_⟩
          exact fin_S k
        · walk_at "go"
          refine ⟨_, _, rfl, lookA_at nd_OF_TWO 3 rfl, ?_⟩
          walk_at "go"
          refine ⟨_, _, _, rfl, rfl, ix_l at1, ?_⟩
          walk_at "go"
          refine ⟨_, _, _, _, rfl, rfl, rfl, (by decide : (0 : Int) < 65536), ?_⟩
          exact fin_S k
        · walk_at "go"
          refine ⟨_, _, rfl, lookA_at nd_OF_TWO 4 rfl, ?_⟩
          walk_at "go"
          refine ⟨_, _, _, rfl, rfl, ix_l at1, ?_⟩
          walk_at "go"
          refine ⟨_, _, _, _, rfl, rfl, rfl, (by decide : (0 : Int) < 65536), ?_⟩
          exact fin_S k
        · walk_at "go"
          refine ⟨_, _, rfl, lookA_at nd_OF_TWO 5 rfl, ?_⟩
          walk_at "go"
          refine ⟨_, _, _, rfl, rfl, ix_l at1, ?_⟩
          walk_at "go"
          refine ⟨_, _, _, _, rfl, rfl, rfl, (by decide : (0 : Int) < 65536), ?_⟩
          exact fin_S k
/-! ### deed_done -/
abbrev s_deed_done : Stmt := top 21
theorem sc_deed_done : FnScope ["op", "mark", "words", "state"] ["op", "mark", "words", "state"] (defScope s_deed_done) := ⟨rfl, rfl, rfl, by decide +kernel, rfl, by decide +kernel, by decide +kernel⟩
theorem ok_deed_done {f : Addr} {fd : FuncData} (F : Fun K "deed_done" "deed_done" s_deed_done f fd) (B : Bln mg) (G : Gln w K mg) {C_State : Addr} (T_State : Tc_State K mg C_State)
    {f_State_put : Addr} {fd_State_put : FuncData} (g_State_put : FnOk P w K mg base CX0 1 f_State_put fd_State_put ["self", "at", "word"] (liftSp (sp_State_put C_State))) (mt_State_put : Meth K C_State "put" f_State_put) (k_State_put : PySem.W.keepIn K (.ref f_State_put) = true) (b_State_put : Binds K fd_State_put ["self", "at", "word"] [])
    {f_State_give : Addr} {fd_State_give : FuncData} (g_State_give : FnOk P w K mg base CX0 1 f_State_give fd_State_give ["self", "name", "word"] (liftSp (sp_State_give C_State))) (mt_State_give : Meth K C_State "give" f_State_give) (k_State_give : PySem.W.keepIn K (.ref f_State_give) = true) (b_State_give : Binds K fd_State_give ["self", "name", "word"] [])
    : FnOk P w K mg base CX0 2 f fd ["op", "mark", "words", "state"] (liftSp (sp_deed_done C_State)) := by
  obtain ⟨gt_CELLS, gm_CELLS⟩ := G.CELLS
  refine F.ok sc_deed_done (lift_len (by rintro us M Q h; obtain ⟨_, _, _, _, _, rfl, _⟩ := h; rfl)) (fun cdv A outer s H vs Q E hr h => ?_)
  refine def_ok ((ls_if (lt_test (le_op (lr_eq (K := K)) (le_var (i := 0)) le_str)) (ls_drop (le_meth (is := [0, 1, 2]) (dv := []) (fun _ => .nil) (le_var (i := 3)) (la_cons (le_op lr_mod (le_op (lr_ix (K := K)) (le_var (i := 2)) le_int) le_int) (la_cons (le_op (lr_ix (K := K)) (le_var (i := 2)) le_int) la_nil)))) (ls_drop (le_meth (is := [0, 1, 2]) (dv := []) (fun _ => .nil) (le_var (i := 3)) (la_cons (le_var (i := 1)) (la_cons (le_op (lr_ix (K := K)) (le_var (i := 2)) le_int) la_nil))))))
    ((pss_one (ps_if (pt_cmpR (x_eq (K := K) rfl (hu64 hr)) (pv 0) pe_str (by first | exact nomark _ | rfl)) (pss_one (ps_expr (pe_meth (pv 3) T_State.cl mt_State_put g_State_put (hr.mono (by omega)) b_State_put .nil pass0 (pa_cons (pe_op op_mod (pe_ix (x_ix (K := K) rfl) (pv 2) pe_int (fun _ _ => rfl)) (pe_glob (by rfl) gm_CELLS ⟨_, rfl⟩)) (pa_cons (pe_ix (x_ix (K := K) rfl) (pv 2) pe_int (fun _ _ => rfl)) pa_nil))))) (pss_one (ps_expr (pe_meth (pv 3) T_State.cl mt_State_give g_State_give (hr.mono (by omega)) b_State_give .nil pass0 (pa_cons (pv 1) (pa_cons (pe_ix (x_ix (K := K) rfl) (pv 2) pe_int (fun _ _ => rfl)) pa_nil))))))))
    h (fun us M Qu hd => ?_)
  obtain ⟨op, mark, ws, cells, kvs, rfl, rfl, hl, hk, ho, k⟩ := hd
  rcases ho with ⟨rfl, hn⟩ | ⟨rfl, hn, s, rfl, hs⟩
  · cases ws with
    | nil => simp at hn
    | cons a ws =>
      cases ws with
      | nil => simp at hn
      | cons b ws =>
        walk_at "go"
        refine ⟨_, _, _, _, rfl, rfl, rfl, (by decide : (0 : Int) < 64), ?_⟩
        walk_at "go"
        refine ⟨_, _, _, rfl, rfl, ix_l at1, ?_⟩
        walk_at "go"
        refine ⟨cells, kvs, a % 64, b, rfl, rfl, Int.emod_nonneg _ (by decide), by rw [hl]; exact Int.emod_lt_of_pos _ (by decide), ?_⟩
        exact fin_S k
  · cases ws with
    | nil => simp at hn
    | cons a ws =>
      walk_at "go"
      refine ⟨cells, kvs, s, a, rfl, rfl, hk, ?_⟩
      exact fin_S k

/-! ### do -/
abbrev s_do : Stmt := top 22
theorem sc_do : FnScope ["web", "state", "found", "words", "op", "mark", "kids", "some", "kid"] ["web", "state"] (defScope s_do) := ⟨rfl, rfl, rfl, by decide +kernel, rfl, by decide +kernel, by decide +kernel⟩
theorem ok_do {f : Addr} {fd : FuncData} (F : Fun K "do" "do" s_do f fd) (B : Bln mg) (G : Gln w K mg) {C_State : Addr} (T_State : Tc_State K mg C_State)
    {f_State_copied : Addr} {fd_State_copied : FuncData} (g_State_copied : FnOk P w K mg base CX0 3 f_State_copied fd_State_copied ["self"] (liftSp (sp_State_copied C_State))) (mt_State_copied : Meth K C_State "copied" f_State_copied) (k_State_copied : PySem.W.keepIn K (.ref f_State_copied) = true) (b_State_copied : Binds K fd_State_copied ["self"] [])
    {f_deed_done : Addr} {fd_deed_done : FuncData} (g_deed_done : FnOk P w K mg base CX0 2 f_deed_done fd_deed_done ["op", "mark", "words", "state"] (liftSp (sp_deed_done C_State))) (m_deed_done : mg "deed_done" = some (.ref f_deed_done)) (k_deed_done : PySem.W.keepIn K (.ref f_deed_done) = true) (b_deed_done : Binds K fd_deed_done ["op", "mark", "words", "state"] [])
    {f_part_word : Addr} {fd_part_word : FuncData} (g_part_word : FnOk P w K mg base CX0 2 f_part_word fd_part_word ["op", "mark", "words", "state"] (liftSp (sp_part_word C_State))) (m_part_word : mg "part_word" = some (.ref f_part_word)) (k_part_word : PySem.W.keepIn K (.ref f_part_word) = true) (b_part_word : Binds K fd_part_word ["op", "mark", "words", "state"] [])
    : FnOk P w K mg base CX0 4 f fd ["web", "state"] (liftSp (sp_do C_State)) := by
  obtain ⟨ga_DEEDS, gm_DEEDS, gw_DEEDS⟩ := G.DEEDS
  refine F.ok sc_do (lift_len (by rintro us M Q h; obtain ⟨_, _, _, _, rfl, _⟩ := h; rfl)) (fun cdv A outer s H vs Q E hr h => ?_)
  refine def_ok ((ls_seq (ls_asg (le_meth (is := [0, 1, 2]) (dv := []) (fun _ => .nil) (le_var (i := 1)) la_nil) (lg_name (i := 2)))
      (ls_seq (ls_asg (le_lstC la_nil) (lg_name (i := 3)))
      (ls_seq (ls_for (li_list (K := K) (le_var (i := 0))) (lg_tup (K := K) (n := 3) (lgs_cons (lg_name (i := 4)) (lgs_cons (lg_name (i := 5)) (lgs_cons (lg_name (i := 6)) lgs_nil)))) (ls_tr (ls_seq (ls_asg (le_lc (li_tup (K := K) (le_var (i := 6))) (lgv_name (i := 8) (by decide)) lt_yes (le_op (lr_ix (K := K)) (le_var (i := 3)) (le_var (i := 8)))) (lg_name (i := 7)))
      (ls_if (lt_test (le_op (lr_inT gw_DEEDS) (le_var (i := 4)) le_raw)) (ls_drop (le_callC (is := [3, 4, 5]) (dv := []) (fun _ => .nil) (la_cons (le_var (i := 4)) (la_cons (le_var (i := 5)) (la_cons (le_var (i := 7)) (la_cons (le_var (i := 2)) la_nil)))))) (ls_drop (le_bm (K := K) (ty_list (K := K)) lm_append (le_var (i := 3)) (la_cons (le_callC (is := [0, 1, 2]) (dv := []) (fun _ => .nil) (la_cons (le_var (i := 4)) (la_cons (le_var (i := 5)) (la_cons (le_var (i := 7)) (la_cons (le_var (i := 1)) la_nil))))) la_nil)))))))
      (ls_ret (le_var (i := 2)))))))
    ((pss_cons (ps_set (i := 2) sc_do.nd rfl (Or.inl rfl) (pe_meth0 (pv 1) T_State.cl mt_State_copied g_State_copied (hr.mono (by omega)) b_State_copied .nil pass0))
      (pss_cons (ps_set (i := 3) sc_do.nd rfl (Or.inr rfl) (pe_lst pa_nil))
      (pss_cons (ps_for PassesOwn.never rfl (pi_list (pv 0)) (pg_tup rfl (pgs_cons (pg_name (i := 4) sc_do.nd rfl (Or.inl rfl)) (pgs_cons (pg_name (i := 5) sc_do.nd rfl (Or.inl rfl)) (pgs_cons (pg_name (i := 6) sc_do.nd rfl (Or.inl rfl)) pgs_nil)))) (pss_cons (ps_setLc (i := 7) (own := [("kid", 8)]) rfl sc_do.nd rfl rfl (sw_true rfl rfl rfl (by decide +kernel)) (pi_tup (pv 6)) (blkOk_by (N := ["web", "state", "found", "words", "op", "mark", "kids", "some", "kid"]) (sc := defScope s_do) (by decide +kernel)) (fun _ _ _ _ _ => (pg_name (i := 8) sc_do.nd rfl (Or.inl rfl))) (fun _ _ _ _ _ => pts_nil) (fun _ _ _ _ _ => (pe_ix (x_ix (K := K) rfl) (pv 3) (pv 8) (fun _ _ => rfl))))
      (pss_one (ps_if (pt_cmpR (x_inS (K := K) rfl) (pv 4) (pe_glob (by rfl) gm_DEEDS (v := .ref ga_DEEDS) rfl) (by first | exact nomark _ | rfl)) (pss_one (ps_expr (pe_call g_deed_done (hr.mono (by omega)) (by rfl) m_deed_done k_deed_done b_deed_done .nil pass0 (pa_cons (pv 4) (pa_cons (pv 5) (pa_cons (pv 7) (pa_cons (pv 2) pa_nil))))))) (pss_one (ps_expr (pe_bm PySem.F.plainAttrs_list PySem.F.slot_list_append PySem.F.type_list_append mt_append (pv 3) (pa_cons (pe_call g_part_word (hr.mono (by omega)) (by rfl) m_part_word k_part_word b_part_word .nil pass0 (pa_cons (pv 4) (pa_cons (pv 5) (pa_cons (pv 7) (pa_cons (pv 1) pa_nil))))) pa_nil))))))))
      (pss_one (ps_ret (pv 2)))))))
    h (fun us M Qu hd => ?_)
  obtain ⟨nds, dd, cells, kvs, rfl, rfl, ok, wok, k⟩ := hd
  have hl := ok.len
  have hsz := ok.size
  have hsl : 1000000 ≤ sizeLine := by decide
  have hk1 := wok.kids.1
  walk_at "go"
  refine ⟨by omega, by omega, ok.tab, ?_⟩
  skip
  walk_at "go"
  refine wLoop_rec (fun us ρ M => ∃ (rs : List NdT) (ws : List Int) (fc : List Int) (fk : KV) (x_op x_mark x_kids x_some x_kid : Option U), ((us = (rs.map fun n => U.d (encNd n)) ++ [U.d (encNd dd)] ∧ fc = cells ∧ fk = kvs ∧ okRun rs ws.length ∧ ws.length + rs.length = nds.length ∧ runW cells (nat_ kvs) rs ws = runW cells (nat_ kvs) nds [] ∧ (∀ w ∈ ws, wordI w)) ∨ (us = [] ∧ fc = deedC dd.1 (wordsOf cells kvs nds dd) cells ∧ fk = deedK dd.1 dd.2.1 (wordsOf cells kvs nds dd) kvs)) ∧ ρ = [some (.d ((.list ((nds ++ [dd]).map encNd)))), some (.p 0), some (.p 3), some (.p 6), x_op, x_mark, x_kids, x_some, x_kid] ∧ M = [stI C_State, .lst (intL cells), .dic kvs, .ins C_State [("cells", .p 4), ("named", .p 5)], .lst (intL fc), .dic fk, .lst (intL ws)]) ?_ ?_ _ _ _ ⟨nds, [], cells, kvs, _, _, _, _, _, .inl ⟨by simp, rfl, rfl, wok.run, by simp, rfl, (fun _ hx => (nomatch hx))⟩, rfl, rfl⟩
  · rintro ρ M ⟨rs, ws, fc, fk, x_op, x_mark, x_kids, x_some, x_kid, h, rfl, rfl⟩
    rcases h with ⟨hu, _⟩ | ⟨_, rfl, rfl⟩
    · simp at hu
    refine ⟨trivial, ?_⟩
    walk_at "go"
    exact .inl ⟨6, (by show (3 : Nat) ≤ 6; decide), (by show (6 : Nat) ≤ 7; decide), (by show (3 : Nat) < 6; decide), okS6, k⟩
  · rintro u us ih ρ M ⟨rs, ws, fc, fk, x_op, x_mark, x_kids, x_some, x_kid, h, rfl, rfl⟩
    rcases h with ⟨hu, rfl, rfl, hr, hlen, hrun, hw⟩ | ⟨hu, _⟩
    · cases rs with
      | nil =>
        simp only [List.length_nil, Nat.add_zero] at hlen
        obtain ⟨rfl, rfl⟩ : u = U.d (encNd dd) ∧ us = [] := by simpa using hu
        refine ⟨trivial, ?_⟩
        walk_at "go"
        refine map_go trivial dd.2.2 (fun k : Nat => PyData.int (k : Int)) (fun k => .int (ws.getD k 0)) (fun x acc R hx hac hR => ?_) ?_
        · walk_at "go"
          refine ⟨_, _, _, rfl, rfl, ix_l (nat_at (by have := wok.kids.2 x hx; omega)), by rw [List.length_map]; omega, ?_⟩
          rw [List.map_append] at hR; exact hR
        refine ⟨_, dats_map _, ?_⟩
        rw [some_nat]
        walk_at "go"
        rw [decide_eq_true (deed_in wok.deed)]
        walk_at "go"
        refine ⟨dd.1, dd.2.1, someW ws dd.2.2, fc, fk, rfl, rfl, hl, by omega, by rw [some_len]; exact wok.deed, ?_⟩
        walk_at "go"
        refine ⟨Nat.le_refl _, okS7, ?_⟩
        have ew : ws = runW fc (nat_ fk) nds [] := hrun
        exact ih _ _ ⟨[], ws, _, _, _, _, _, _, _, .inr ⟨rfl, by rw [ew]; rfl, by rw [ew]; rfl⟩, rfl, rfl⟩
      | cons n rs =>
        have hk2 := hr.2.1.1
        obtain ⟨rfl, rfl⟩ : u = U.d (encNd n) ∧ us = (rs.map fun n => U.d (encNd n)) ++ [U.d (encNd dd)] := by simpa using hu
        refine ⟨trivial, ?_⟩
        walk_at "go"
        refine map_go trivial n.2.2 (fun k : Nat => PyData.int (k : Int)) (fun k => .int (ws.getD k 0)) (fun x acc R hx hac hR => ?_) ?_
        · walk_at "go"
          refine ⟨_, _, _, rfl, rfl, ix_l (nat_at (by have := hr.2.1.2 x hx; omega)), by rw [List.length_map]; omega, ?_⟩
          rw [List.map_append] at hR; exact hR
        refine ⟨_, dats_map _, ?_⟩
        rw [some_nat]
        walk_at "go"
        rw [decide_eq_false (part_deed hr.1)]
        walk_at "go"
        refine ⟨.inl ⟨_, rfl⟩, ?_⟩
        walk_at "go"
        refine ⟨n.1, n.2.1, someW ws n.2.2, fc, fk, rfl, rfl, ok.tab.1, hl, some_word hw _, by rw [some_len]; exact hr.1, ?_⟩
        walk_at "go"
        have hlen2 : ws.length + (rs.length + 1) = nds.length := hlen
        have hwl := wok.len
        refine ⟨by rw [show (intL ws).length = ws.length from List.length_map _]; omega, ?_⟩
        rw [snoc_intL]
        refine ⟨Nat.le_refl _, okS7, ?_⟩
        refine ih _ _ ⟨rs, ws ++ [partW fc (nat_ fk) n.1 n.2.1 (someW ws n.2.2)], _, _, _, _, _, _, _, .inl ⟨rfl, rfl, rfl, ?_, ?_, hrun, ?_⟩, rfl, rfl⟩
        · rw [List.length_append]; exact hr.2.2
        · rw [List.length_append]; show ws.length + 1 + rs.length = nds.length; omega
        · intro w hw2
          rcases List.mem_append.mp hw2 with hw2 | hw2
          · exact hw w hw2
          · rw [List.mem_singleton.mp hw2]
            exact part_word ok.words (nat_word ok.tab.1) (by rw [some_len]; exact hr.1)
    · cases hu

/-! ### reckoned -/
abbrev s_reckoned : Stmt := top 40
theorem sc_reckoned : FnScope ["_law_op", "_law_one", "_law_other", "_law_found", "_law_step", "_law_k", "_law_first", "_law_second", "_law_bit"] ["_law_op", "_law_one", "_law_other"] (defScope s_reckoned) := ⟨rfl, rfl, rfl, by decide +kernel, rfl, by decide +kernel, by decide +kernel⟩
theorem ok_reckoned {f : Addr} {fd : FuncData} (F : Fun K "_law_reckoned" "_law_reckoned" s_reckoned f fd) (B : Bln mg) (G : Gln w K mg)
    : FnOk P w K mg base CX0 1 f fd ["_law_op", "_law_one", "_law_other"] (liftSp sp_reckoned) := by
  refine F.ok sc_reckoned (lift_len (by rintro us M Q h; obtain ⟨_, _, _, rfl, _⟩ := h; rfl)) (fun cdv A outer s H vs Q E hr h => ?_)
  refine def_ok ((ls_seq (ls_if (lt_test (le_op (lr_in (K := K)) (le_var (i := 0)) (le_tup (la_cons le_str (la_cons le_str la_nil))))) (ls_ret (le_if (lt_test (le_op (lr_eq (K := K)) (le_var (i := 0)) le_str)) (le_op lr_sub le_int (le_var (i := 1))) (le_op lr_sub le_int (le_var (i := 1))))) ls_next)
      (ls_seq (ls_if (lt_test (le_op (lr_in (K := K)) (le_var (i := 0)) (le_tup (la_cons le_str (la_cons le_str la_nil))))) (ls_ret (le_if (lt_test (le_op (lr_eq (K := K)) (le_var (i := 0)) le_str)) (le_op (lr_add (K := K)) (le_var (i := 1)) (le_var (i := 2))) (le_op lr_sub (le_var (i := 1)) (le_var (i := 2))))) ls_next)
      (ls_seq (ls_if (lt_test (le_op (lr_eq (K := K)) (le_var (i := 0)) le_str)) (ls_ret (le_op lr_mulA (le_var (i := 1)) (le_var (i := 2)))) ls_next)
      (ls_cut (ls_asg (le_tup (la_cons le_int (la_cons le_int la_nil))) (lg_tup (K := K) (n := 2) (lgs_cons (lg_name (i := 3)) (lgs_cons (lg_name (i := 4)) lgs_nil))))
      (ls_seq (ls_for (li_rng1 (la_cons le_int la_nil)) (lg_name (i := 5)) (ls_seq (ls_par (i := 6) (j := 7) (la_cons (le_op lr_mod (le_op lr_divW (le_var (i := 1)) (le_var (i := 4))) le_int) (la_cons (le_op lr_mod (le_op lr_divW (le_var (i := 2)) (le_var (i := 4))) le_int) la_nil)))
      (ls_seq (ls_asg (le_if (lt_test (le_op (lr_eq (K := K)) (le_var (i := 0)) le_str)) (le_op lr_mulA (le_var (i := 6)) (le_var (i := 7))) (le_if (lt_test (le_op (lr_eq (K := K)) (le_var (i := 0)) le_str)) (le_cb lc_max2 (la_cons (le_var (i := 6)) (la_cons (le_var (i := 7)) la_nil))) (le_op lr_mod (le_op (lr_add (K := K)) (le_var (i := 6)) (le_var (i := 7))) le_int))) (lg_name (i := 8)))
      (ls_par (i := 3) (j := 4) (la_cons (le_op (lr_add (K := K)) (le_var (i := 3)) (le_op lr_mulA (le_var (i := 8)) (le_var (i := 4)))) (la_cons (le_op lr_mulA le_int (le_var (i := 4))) la_nil))))))
      (ls_ret (le_var (i := 3)))))))))
    ((pss_cons (ps_if (pt_cmpR (x_in (K := K) rfl (hu65 hr)) (pv 0) (pe_tup (pa_cons pe_str (pa_cons pe_str pa_nil))) (by first | exact nomark _ | rfl)) (pss_one (ps_ret (pe_ifExp (pt_cmpR (x_eq (K := K) rfl (hu64 hr)) (pv 0) pe_str (by first | exact nomark _ | rfl)) (pe_op op_sub pe_int (pv 1)) (pe_op op_sub pe_int (pv 1))))) pss_nil)
      (pss_cons (ps_if (pt_cmpR (x_in (K := K) rfl (hu65 hr)) (pv 0) (pe_tup (pa_cons pe_str (pa_cons pe_str pa_nil))) (by first | exact nomark _ | rfl)) (pss_one (ps_ret (pe_ifExp (pt_cmpR (x_eq (K := K) rfl (hu64 hr)) (pv 0) pe_str (by first | exact nomark _ | rfl)) (pe_op (x_add (K := K) rfl) (pv 1) (pv 2)) (pe_op op_sub (pv 1) (pv 2))))) pss_nil)
      (pss_cons (ps_if (pt_cmpR (x_eq (K := K) rfl (hu64 hr)) (pv 0) pe_str (by first | exact nomark _ | rfl)) (pss_one (ps_ret (pe_op op_mulAll (pv 1) (pv 2)))) pss_nil)
      (pss_cons (ps_asg (pe_tup (pa_cons pe_int (pa_cons pe_int pa_nil))) (pg_tup rfl (pgs_cons (pg_name (i := 3) sc_reckoned.nd rfl (Or.inl rfl)) (pgs_cons (pg_name (i := 4) sc_reckoned.nd rfl (Or.inl rfl)) pgs_nil))))
      (pss_cons (ps_for PassesOwn.never rfl (pi_range1 (by rfl) B.range_ (pa_cons pe_int pa_nil)) (pg_name (i := 5) sc_reckoned.nd rfl (Or.inl rfl)) (pss_cons (ps_par (i := 6) (j := 7) rfl sc_reckoned.nd rfl rfl (by decide) rfl rfl (pa_cons (pe_op op_mod (pe_op op_fdivW (pv 1) (pv 4)) pe_int) (pa_cons (pe_op op_mod (pe_op op_fdivW (pv 2) (pv 4)) pe_int) pa_nil)) rfl)
      (pss_cons (ps_set (i := 8) sc_reckoned.nd rfl (Or.inl rfl) (pe_ifExp (pt_cmpR (x_eq (K := K) rfl (hu64 hr)) (pv 0) pe_str (by first | exact nomark _ | rfl)) (pe_op op_mulAll (pv 6) (pv 7)) (pe_ifExp (pt_cmpR (x_eq (K := K) rfl (hu64 hr)) (pv 0) pe_str (by first | exact nomark _ | rfl)) (pe_callB (call_max2 rfl) (by rfl) B.max_ bt_max (pa_cons (pv 6) (pa_cons (pv 7) pa_nil))) (pe_op op_mod (pe_op (x_add (K := K) rfl) (pv 6) (pv 7)) pe_int))))
      (pss_one (ps_par (i := 3) (j := 4) rfl sc_reckoned.nd rfl rfl (by decide) rfl rfl (pa_cons (pe_op (x_add (K := K) rfl) (pv 3) (pe_op op_mulAll (pv 8) (pv 4))) (pa_cons (pe_op op_mulAll pe_int (pv 4)) pa_nil)) rfl)))))
      (pss_one (ps_ret (pv 3)))))))))
    h (fun us M Qu hd => ?_)
  obtain ⟨op, a, b, rfl, rfl, ha, hb, ho, k⟩ := hd
  have hbits : op ∈ (["neg", "not", "add", "sub", "mul"] : List Str) ∨ op ∈ (["and", "or", "xor"] : List Str) := by
    simp only [List.mem_cons, List.not_mem_nil, or_false] at ho ⊢
    rcases ho with h | h | h | h | h | h | h | h <;> simp [h]
  rcases hbits with h | h
  · simp only [List.mem_cons, List.not_mem_nil, or_false] at h
    rcases h with rfl | rfl | rfl | rfl | rfl
    · walk_at "go"
      refine ⟨_, _, _, _, rfl, rfl, rfl, ⟨rfl, rfl⟩, ?_⟩
      walk_at "go"
      exact fin_d0 (k _ (by show (65536 - a) % 65536 = (-a) % 65536; omega))
    · walk_at "go"
      refine ⟨_, _, _, _, rfl, rfl, rfl, ⟨rfl, rfl⟩, ?_⟩
      walk_at "go"
      exact fin_d0 (k _ rfl)
    · walk_at "go"
      refine ⟨_, _, _, _, rfl, rfl, rfl, ⟨rfl, rfl⟩, ?_⟩
      walk_at "go"
      refine ⟨_, _, _, _, rfl, rfl, rfl, ⟨rfl, rfl⟩, ?_⟩
      walk_at "go"
      exact fin_d0 (k _ rfl)
    · walk_at "go"
      refine ⟨_, _, _, _, rfl, rfl, rfl, ⟨rfl, rfl⟩, ?_⟩
      walk_at "go"
      refine ⟨_, _, _, _, rfl, rfl, rfl, ⟨rfl, rfl⟩, ?_⟩
      walk_at "go"
      exact fin_d0 (k _ rfl)
    · walk_at "go"
      refine ⟨_, _, _, _, rfl, rfl, rfl, ⟨rfl, rfl⟩, ?_⟩
      walk_at "go"
      refine ⟨_, _, _, _, rfl, rfl, rfl, ⟨rfl, rfl⟩, ?_⟩
      walk_at "go"
      refine ⟨_, _, _, _, rfl, rfl, rfl, .inl ⟨by have := ha.1; omega, by have := ha.2; omega⟩, ?_⟩
      exact fin_d0 (k _ rfl)
  · obtain ⟨m, rfl⟩ := Int.eq_ofNat_of_zero_le ha.1
    obtain ⟨n, rfl⟩ := Int.eq_ofNat_of_zero_le hb.1
    have hm : m < 65536 := by have := ha.2; omega
    have hn : n < 65536 := by have := hb.2; omega
    have hf := op_bits h hm hn
    simp only [List.mem_cons, List.not_mem_nil, or_false] at h
    rcases h with rfl | rfl | rfl
    · walk_at "go"
      refine ⟨_, _, _, _, rfl, rfl, rfl, ⟨rfl, rfl⟩, ?_⟩
      walk_at "go"
      refine ⟨_, _, _, _, rfl, rfl, rfl, ⟨rfl, rfl⟩, ?_⟩
      walk_at "go"
      skip
      refine ⟨(fun ρ M => ∃  (x_k x_first x_second x_bit : Option U), ρ = [some (.d (.str ("and"))), some (.d (.int ((m : Int)))), some (.d (.int ((n : Int)))), some (.d (.int (0))), some (.d (.int (1))), x_k, x_first, x_second, x_bit] ∧ M = []), ?_, ?_⟩
      · walk_at "go"
        exact ⟨_, _, _, _, rfl, rfl⟩
      · rintro ρ M ⟨x_k, x_first, x_second, x_bit, rfl, rfl⟩
        refine ⟨_, _, rfl, rfl, ⟨by decide, by decide⟩, ?_⟩
        show wLoop _ _ _ _ (intsU 0 16) _ _
        refine wLoop_rec (fun us ρ M => ∃ (j n2 : Nat) (fd st : Int) (x_k x_first x_second x_bit : Option U), (us = intsU (j : Int) n2) ∧ (j + n2 = 16) ∧ (fd = ((bitsTo (opBit "and") m n j : Nat) : Int)) ∧ (st = ((2 ^ j : Nat) : Int)) ∧ ρ = [some (.d (.str ("and"))), some (.d (.int ((m : Int)))), some (.d (.int ((n : Int)))), some (.d (.int (fd))), some (.d (.int (st))), x_k, x_first, x_second, x_bit] ∧ M = []) ?_ ?_ _ _ _ ⟨0, 16, 0, 1, _, _, _, _, rfl, rfl, rfl, rfl, rfl, rfl⟩
        · rintro ρ M ⟨j, n2, fd, st, x_k, x_first, x_second, x_bit, hu, hj, hfd, hst, rfl, rfl⟩
          have hn2 : n2 = 0 := by cases n2 with
            | zero => rfl
            | succ q => rw [intsU_succ] at hu; cases hu
          subst hn2
          have hj16 : j = 16 := by omega
          subst hj16
          refine ⟨trivial, ?_⟩
          walk_at "go"
          rw [hfd, hf]
          exact fin_d0 (k _ rfl)
        · rintro u us ih ρ M ⟨j, n2, fd, st, x_k, x_first, x_second, x_bit, hu, hj, hfd, hst, rfl, rfl⟩
          cases n2 with
          | zero => cases hu
          | succ q =>
            rw [intsU_succ] at hu
            injection hu with e1 e2
            subst e1
            have h1 : 1 ≤ 2 ^ j := Nat.one_le_two_pow
            have h2 : 2 ^ j ≤ 2 ^ 16 := Nat.pow_le_pow_right (by decide) (by omega)
            subst hfd; subst hst
            have hp : m / 2 ^ j % 2 < 2 := Nat.mod_lt _ (by decide)
            have hq : n / 2 ^ j % 2 < 2 := Nat.mod_lt _ (by decide)
            have e1 : ((m : Int) / ((2 ^ j : Nat) : Int)) % 2 = ((m / 2 ^ j % 2 : Nat) : Int) := rfl
            have e3 : ((n : Int) / ((2 ^ j : Nat) : Int)) % 2 = ((n / 2 ^ j % 2 : Nat) : Int) := rfl
            have hdv : ∀ x : Int, CDivW x ((2 ^ j : Nat) : Int) := fun x => wide_div (b := 32) (by omega) (by omega) (by decide) (by decide)
            have es : bitsTo (opBit "and") m n (j + 1) = bitsTo (opBit "and") m n j + opBit "and" (m / 2 ^ j % 2) (n / 2 ^ j % 2) * 2 ^ j := rfl
            have ep : 2 ^ (j + 1) = 2 * 2 ^ j := by rw [Nat.pow_succ, Nat.mul_comm]
            generalize hbt : bitsTo (opBit "and") m n j = bt at *
            generalize hpp : m / 2 ^ j % 2 = p at *
            generalize hqq : n / 2 ^ j % 2 = q2 at *
            generalize hst : 2 ^ j = st at *
            refine ⟨trivial, ?_⟩
            walk_at "go"
            refine ⟨_, _, _, _, rfl, rfl, rfl, hdv _, ?_⟩
            walk_at "go"
            refine ⟨_, _, _, _, rfl, rfl, rfl, (by decide : (0 : Int) < 2), ?_⟩
            walk_at "go"
            refine ⟨_, _, _, _, rfl, rfl, rfl, hdv _, ?_⟩
            walk_at "go"
            refine ⟨_, _, _, _, rfl, rfl, rfl, (by decide : (0 : Int) < 2), ?_⟩
            walk_at "go"
            simp only [e1, e3]
            walk_at "go"
            refine ⟨_, _, _, _, rfl, rfl, rfl, .inl ⟨by omega, by omega⟩, ?_⟩
            walk_at "go"
            have hb : opBit "and" p q2 = p * q2 := rfl
            have hb1 : p * q2 < 2 := by
              have h0 : p = 0 ∨ p = 1 := by omega
              rcases h0 with rfl | rfl <;> omega
            have hc : (p : Int) * (q2 : Int) = ((p * q2 : Nat) : Int) := rfl
            simp only [hc]
            rw [hb] at es
            generalize p * q2 = bit at *
            refine ⟨_, _, _, _, rfl, rfl, rfl, .inl ⟨by omega, by omega⟩, ?_⟩
            walk_at "go"
            refine ⟨_, _, _, _, rfl, rfl, rfl, .inl ⟨by decide, by decide⟩, ?_⟩
            walk_at "go"
            have e6 : ((bit : Int)) * (st : Int) = ((bit * st : Nat) : Int) := rfl
            exact ih _ _ ⟨j + 1, q, _, _, _, _, _, _, by rw [e2]; rfl, by omega, by rw [e6, es]; rfl, by rw [ep]; rfl, rfl, rfl⟩
    · walk_at "go"
      refine ⟨_, _, _, _, rfl, rfl, rfl, ⟨rfl, rfl⟩, ?_⟩
      walk_at "go"
      refine ⟨_, _, _, _, rfl, rfl, rfl, ⟨rfl, rfl⟩, ?_⟩
      walk_at "go"
      skip
      refine ⟨(fun ρ M => ∃  (x_k x_first x_second x_bit : Option U), ρ = [some (.d (.str ("or"))), some (.d (.int ((m : Int)))), some (.d (.int ((n : Int)))), some (.d (.int (0))), some (.d (.int (1))), x_k, x_first, x_second, x_bit] ∧ M = []), ?_, ?_⟩
      · walk_at "go"
        exact ⟨_, _, _, _, rfl, rfl⟩
      · rintro ρ M ⟨x_k, x_first, x_second, x_bit, rfl, rfl⟩
        refine ⟨_, _, rfl, rfl, ⟨by decide, by decide⟩, ?_⟩
        show wLoop _ _ _ _ (intsU 0 16) _ _
        refine wLoop_rec (fun us ρ M => ∃ (j n2 : Nat) (fd st : Int) (x_k x_first x_second x_bit : Option U), (us = intsU (j : Int) n2) ∧ (j + n2 = 16) ∧ (fd = ((bitsTo (opBit "or") m n j : Nat) : Int)) ∧ (st = ((2 ^ j : Nat) : Int)) ∧ ρ = [some (.d (.str ("or"))), some (.d (.int ((m : Int)))), some (.d (.int ((n : Int)))), some (.d (.int (fd))), some (.d (.int (st))), x_k, x_first, x_second, x_bit] ∧ M = []) ?_ ?_ _ _ _ ⟨0, 16, 0, 1, _, _, _, _, rfl, rfl, rfl, rfl, rfl, rfl⟩
        · rintro ρ M ⟨j, n2, fd, st, x_k, x_first, x_second, x_bit, hu, hj, hfd, hst, rfl, rfl⟩
          have hn2 : n2 = 0 := by cases n2 with
            | zero => rfl
            | succ q => rw [intsU_succ] at hu; cases hu
          subst hn2
          have hj16 : j = 16 := by omega
          subst hj16
          refine ⟨trivial, ?_⟩
          walk_at "go"
          rw [hfd, hf]
          exact fin_d0 (k _ rfl)
        · rintro u us ih ρ M ⟨j, n2, fd, st, x_k, x_first, x_second, x_bit, hu, hj, hfd, hst, rfl, rfl⟩
          cases n2 with
          | zero => cases hu
          | succ q =>
            rw [intsU_succ] at hu
            injection hu with e1 e2
            subst e1
            have h1 : 1 ≤ 2 ^ j := Nat.one_le_two_pow
            have h2 : 2 ^ j ≤ 2 ^ 16 := Nat.pow_le_pow_right (by decide) (by omega)
            subst hfd; subst hst
            have hp : m / 2 ^ j % 2 < 2 := Nat.mod_lt _ (by decide)
            have hq : n / 2 ^ j % 2 < 2 := Nat.mod_lt _ (by decide)
            have e1 : ((m : Int) / ((2 ^ j : Nat) : Int)) % 2 = ((m / 2 ^ j % 2 : Nat) : Int) := rfl
            have e3 : ((n : Int) / ((2 ^ j : Nat) : Int)) % 2 = ((n / 2 ^ j % 2 : Nat) : Int) := rfl
            have hdv : ∀ x : Int, CDivW x ((2 ^ j : Nat) : Int) := fun x => wide_div (b := 32) (by omega) (by omega) (by decide) (by decide)
            have es : bitsTo (opBit "or") m n (j + 1) = bitsTo (opBit "or") m n j + opBit "or" (m / 2 ^ j % 2) (n / 2 ^ j % 2) * 2 ^ j := rfl
            have ep : 2 ^ (j + 1) = 2 * 2 ^ j := by rw [Nat.pow_succ, Nat.mul_comm]
            generalize hbt : bitsTo (opBit "or") m n j = bt at *
            generalize hpp : m / 2 ^ j % 2 = p at *
            generalize hqq : n / 2 ^ j % 2 = q2 at *
            generalize hst : 2 ^ j = st at *
            refine ⟨trivial, ?_⟩
            walk_at "go"
            refine ⟨_, _, _, _, rfl, rfl, rfl, hdv _, ?_⟩
            walk_at "go"
            refine ⟨_, _, _, _, rfl, rfl, rfl, (by decide : (0 : Int) < 2), ?_⟩
            walk_at "go"
            refine ⟨_, _, _, _, rfl, rfl, rfl, hdv _, ?_⟩
            walk_at "go"
            refine ⟨_, _, _, _, rfl, rfl, rfl, (by decide : (0 : Int) < 2), ?_⟩
            walk_at "go"
            simp only [e1, e3]
            walk_at "go"
            have hb : opBit "or" p q2 = max p q2 := rfl
            have hb1 : max p q2 < 2 := by omega
            have hc : (if (p : Int) < (q2 : Int) then (q2 : Int) else (p : Int)) = ((max p q2 : Nat) : Int) := by split <;> omega
            simp only [hc]
            rw [hb] at es
            generalize max p q2 = bit at *
            refine ⟨_, _, _, _, rfl, rfl, rfl, .inl ⟨by omega, by omega⟩, ?_⟩
            walk_at "go"
            refine ⟨_, _, _, _, rfl, rfl, rfl, .inl ⟨by decide, by decide⟩, ?_⟩
            walk_at "go"
            have e6 : ((bit : Int)) * (st : Int) = ((bit * st : Nat) : Int) := rfl
            exact ih _ _ ⟨j + 1, q, _, _, _, _, _, _, by rw [e2]; rfl, by omega, by rw [e6, es]; rfl, by rw [ep]; rfl, rfl, rfl⟩
    · walk_at "go"
      refine ⟨_, _, _, _, rfl, rfl, rfl, ⟨rfl, rfl⟩, ?_⟩
      walk_at "go"
      refine ⟨_, _, _, _, rfl, rfl, rfl, ⟨rfl, rfl⟩, ?_⟩
      walk_at "go"
      skip
      refine ⟨(fun ρ M => ∃  (x_k x_first x_second x_bit : Option U), ρ = [some (.d (.str ("xor"))), some (.d (.int ((m : Int)))), some (.d (.int ((n : Int)))), some (.d (.int (0))), some (.d (.int (1))), x_k, x_first, x_second, x_bit] ∧ M = []), ?_, ?_⟩
      · walk_at "go"
        exact ⟨_, _, _, _, rfl, rfl⟩
      · rintro ρ M ⟨x_k, x_first, x_second, x_bit, rfl, rfl⟩
        refine ⟨_, _, rfl, rfl, ⟨by decide, by decide⟩, ?_⟩
        show wLoop _ _ _ _ (intsU 0 16) _ _
        refine wLoop_rec (fun us ρ M => ∃ (j n2 : Nat) (fd st : Int) (x_k x_first x_second x_bit : Option U), (us = intsU (j : Int) n2) ∧ (j + n2 = 16) ∧ (fd = ((bitsTo (opBit "xor") m n j : Nat) : Int)) ∧ (st = ((2 ^ j : Nat) : Int)) ∧ ρ = [some (.d (.str ("xor"))), some (.d (.int ((m : Int)))), some (.d (.int ((n : Int)))), some (.d (.int (fd))), some (.d (.int (st))), x_k, x_first, x_second, x_bit] ∧ M = []) ?_ ?_ _ _ _ ⟨0, 16, 0, 1, _, _, _, _, rfl, rfl, rfl, rfl, rfl, rfl⟩
        · rintro ρ M ⟨j, n2, fd, st, x_k, x_first, x_second, x_bit, hu, hj, hfd, hst, rfl, rfl⟩
          have hn2 : n2 = 0 := by cases n2 with
            | zero => rfl
            | succ q => rw [intsU_succ] at hu; cases hu
          subst hn2
          have hj16 : j = 16 := by omega
          subst hj16
          refine ⟨trivial, ?_⟩
          walk_at "go"
          rw [hfd, hf]
          exact fin_d0 (k _ rfl)
        · rintro u us ih ρ M ⟨j, n2, fd, st, x_k, x_first, x_second, x_bit, hu, hj, hfd, hst, rfl, rfl⟩
          cases n2 with
          | zero => cases hu
          | succ q =>
            rw [intsU_succ] at hu
            injection hu with e1 e2
            subst e1
            have h1 : 1 ≤ 2 ^ j := Nat.one_le_two_pow
            have h2 : 2 ^ j ≤ 2 ^ 16 := Nat.pow_le_pow_right (by decide) (by omega)
            subst hfd; subst hst
            have hp : m / 2 ^ j % 2 < 2 := Nat.mod_lt _ (by decide)
            have hq : n / 2 ^ j % 2 < 2 := Nat.mod_lt _ (by decide)
            have e1 : ((m : Int) / ((2 ^ j : Nat) : Int)) % 2 = ((m / 2 ^ j % 2 : Nat) : Int) := rfl
            have e3 : ((n : Int) / ((2 ^ j : Nat) : Int)) % 2 = ((n / 2 ^ j % 2 : Nat) : Int) := rfl
            have hdv : ∀ x : Int, CDivW x ((2 ^ j : Nat) : Int) := fun x => wide_div (b := 32) (by omega) (by omega) (by decide) (by decide)
            have es : bitsTo (opBit "xor") m n (j + 1) = bitsTo (opBit "xor") m n j + opBit "xor" (m / 2 ^ j % 2) (n / 2 ^ j % 2) * 2 ^ j := rfl
            have ep : 2 ^ (j + 1) = 2 * 2 ^ j := by rw [Nat.pow_succ, Nat.mul_comm]
            generalize hbt : bitsTo (opBit "xor") m n j = bt at *
            generalize hpp : m / 2 ^ j % 2 = p at *
            generalize hqq : n / 2 ^ j % 2 = q2 at *
            generalize hst : 2 ^ j = st at *
            refine ⟨trivial, ?_⟩
            walk_at "go"
            refine ⟨_, _, _, _, rfl, rfl, rfl, hdv _, ?_⟩
            walk_at "go"
            refine ⟨_, _, _, _, rfl, rfl, rfl, (by decide : (0 : Int) < 2), ?_⟩
            walk_at "go"
            refine ⟨_, _, _, _, rfl, rfl, rfl, hdv _, ?_⟩
            walk_at "go"
            refine ⟨_, _, _, _, rfl, rfl, rfl, (by decide : (0 : Int) < 2), ?_⟩
            walk_at "go"
            simp only [e1, e3]
            walk_at "go"
            refine ⟨_, _, _, _, rfl, rfl, rfl, (by decide : (0 : Int) < 2), ?_⟩
            walk_at "go"
            have hb : opBit "xor" p q2 = (p + q2) % 2 := rfl
            have hb1 : (p + q2) % 2 < 2 := Nat.mod_lt _ (by decide)
            have hc : ((p : Int) + (q2 : Int)) % 2 = (((p + q2) % 2 : Nat) : Int) := rfl
            simp only [hc]
            rw [hb] at es
            generalize (p + q2) % 2 = bit at *
            refine ⟨_, _, _, _, rfl, rfl, rfl, .inl ⟨by omega, by omega⟩, ?_⟩
            walk_at "go"
            refine ⟨_, _, _, _, rfl, rfl, rfl, .inl ⟨by decide, by decide⟩, ?_⟩
            walk_at "go"
            have e6 : ((bit : Int)) * (st : Int) = ((bit * st : Nat) : Int) := rfl
            exact ih _ _ ⟨j + 1, q, _, _, _, _, _, _, by rw [e2]; rfl, by omega, by rw [e6, es]; rfl, by rw [ep]; rfl, rfl, rfl⟩

/-! ### state -/
abbrev s_state : Stmt := top 38
theorem sc_state : FnScope ["_law_bag_here", "_law_state_here", "_law_cells", "_law_names", "_law_turn", "_law_at", "_law_word_here", "_law_name_here"] ["_law_bag_here"] (defScope s_state) := ⟨rfl, rfl, rfl, by decide +kernel, rfl, by decide +kernel, by decide +kernel⟩
theorem ok_state {f : Addr} {fd : FuncData} (F : Fun K "_law_state" "_law_state" s_state f fd) (B : Bln mg) (G : Gln w K mg) {C_State : Addr} (T_State : Tc_State K mg C_State)
    {f_State___init__ : Addr} {fd_State___init__ : FuncData} (g_State___init__ : FnOk P w K mg base CX0 1 f_State___init__ fd_State___init__ ["self"] (liftSp (sp_State___init__ C_State))) (M_State : Mk K C_State f_State___init__) (k_State___init__ : PySem.W.keepIn K (.ref f_State___init__) = true) (b_State___init__ : Binds K fd_State___init__ ["self"] [])
    {f_State_put : Addr} {fd_State_put : FuncData} (g_State_put : FnOk P w K mg base CX0 1 f_State_put fd_State_put ["self", "at", "word"] (liftSp (sp_State_put C_State))) (mt_State_put : Meth K C_State "put" f_State_put) (k_State_put : PySem.W.keepIn K (.ref f_State_put) = true) (b_State_put : Binds K fd_State_put ["self", "at", "word"] [])
    {f_State_give : Addr} {fd_State_give : FuncData} (g_State_give : FnOk P w K mg base CX0 1 f_State_give fd_State_give ["self", "name", "word"] (liftSp (sp_State_give C_State))) (mt_State_give : Meth K C_State "give" f_State_give) (k_State_give : PySem.W.keepIn K (.ref f_State_give) = true) (b_State_give : Binds K fd_State_give ["self", "name", "word"] [])
    {f_take : Addr} {fd_take : FuncData} (g_take : FnOk P w K mg base CX0 1 f_take fd_take ["_law_bag_here", "_law_many"] (liftSp sp_take)) (m_take : mg "_law_take" = some (.ref f_take)) (k_take : PySem.W.keepIn K (.ref f_take) = true) (b_take : Binds K fd_take ["_law_bag_here", "_law_many"] [])
    {f_word : Addr} {fd_word : FuncData} (g_word : FnOk P w K mg base CX0 2 f_word fd_word ["_law_bag_here"] (liftSp sp_word)) (m_word : mg "_law_word" = some (.ref f_word)) (k_word : PySem.W.keepIn K (.ref f_word) = true) (b_word : Binds K fd_word ["_law_bag_here"] [])
    {f_name : Addr} {fd_name : FuncData} (g_name : FnOk P w K mg base CX0 2 f_name fd_name ["_law_bag_here"] (liftSp sp_name)) (m_name : mg "_law_name" = some (.ref f_name)) (k_name : PySem.W.keepIn K (.ref f_name) = true) (b_name : Binds K fd_name ["_law_bag_here"] [])
    : FnOk P w K mg base CX0 3 f fd ["_law_bag_here"] (liftSp (sp_state C_State)) := by
  refine F.ok sc_state (lift_len (by rintro us M Q h; obtain ⟨_, _, rfl, _⟩ := h; rfl)) (fun cdv A outer s H vs Q E hr h => ?_)
  refine def_ok ((ls_seq (ls_par3 (i := 1) (j := 2) (l := 3) (la_cons (le_make (dv := []) (fun _ => .nil) la_nil) (la_cons (le_op lr_mulC (le_lst (la_cons le_int la_nil)) le_int) (la_cons le_dnewK la_nil))))
      (ls_cut (ls_for (li_rng1 (la_cons (le_op (lr_ix (K := K)) (le_tup (la_cons le_int (la_cons le_int (la_cons le_int la_nil)))) (le_callC (is := [0]) (dv := []) (fun _ => .nil) (la_cons (le_var (i := 0)) (la_cons le_int la_nil)))) la_nil)) (lg_name (i := 4)) (ls_seq (ls_par (i := 5) (j := 6) (la_cons (le_callC (is := [0]) (dv := []) (fun _ => .nil) (la_cons (le_var (i := 0)) (la_cons le_int la_nil))) (la_cons (le_callC (is := [0]) (dv := []) (fun _ => .nil) (la_cons (le_var (i := 0)) la_nil)) la_nil)))
      (ls_seq (ls_drop (le_meth (is := [1, 2, 3]) (dv := []) (fun _ => .nil) (le_var (i := 1)) (la_cons (le_var (i := 5)) (la_cons (le_var (i := 6)) la_nil))))
      (ls_asg (le_var (i := 6)) (lg_sub (le_var (i := 2)) (le_var (i := 5)) lset_list)))))
      (ls_seq (ls_for (li_rng1 (la_cons (le_op (lr_ix (K := K)) (le_tup (la_cons le_int (la_cons le_int (la_cons le_int la_nil)))) (le_callC (is := [0]) (dv := []) (fun _ => .nil) (la_cons (le_var (i := 0)) (la_cons le_int la_nil)))) la_nil)) (lg_name (i := 4)) (ls_seq (ls_par (i := 7) (j := 6) (la_cons (le_callC (is := [0]) (dv := []) (fun _ => .nil) (la_cons (le_var (i := 0)) la_nil)) (la_cons (le_callC (is := [0]) (dv := []) (fun _ => .nil) (la_cons (le_var (i := 0)) la_nil)) la_nil)))
      (ls_seq (ls_drop (le_meth (is := [1, 2, 3]) (dv := []) (fun _ => .nil) (le_var (i := 1)) (la_cons (le_var (i := 7)) (la_cons (le_var (i := 6)) la_nil))))
      (ls_dput (le_var (i := 3)) (le_var (i := 7)) (le_var (i := 6))))))
      (ls_ret (le_tupP (la_cons (le_var (i := 1)) (la_cons (le_var (i := 2)) (la_cons (le_var (i := 3)) la_nil)))))))))
    ((pss_cons (ps_par3 (i := 1) (j := 2) (l := 3) rfl sc_state.nd rfl rfl rfl (by decide) (by decide) (by decide) rfl rfl rfl (pa_cons (pe_make0 M_State g_State___init__ (hr.mono (by omega)) (by rfl) T_State.mgC b_State___init__ .nil pass0) (pa_cons (pe_op op_mulAll (pe_lst (pa_cons pe_int pa_nil)) pe_int) (pa_cons pe_dnewK pa_nil))) rfl)
      (pss_cons (ps_for PassesOwn.never rfl (pi_range1 (by rfl) B.range_ (pa_cons (pe_ix (x_ix (K := K) rfl) (pe_tup (pa_cons pe_int (pa_cons pe_int (pa_cons pe_int pa_nil)))) (pe_call g_take (hr.mono (by omega)) (by rfl) m_take k_take b_take .nil pass0 (pa_cons (pv 0) (pa_cons pe_int pa_nil))) (fun _ _ => rfl)) pa_nil)) (pg_name (i := 4) sc_state.nd rfl (Or.inl rfl)) (pss_cons (ps_par (i := 5) (j := 6) rfl sc_state.nd rfl rfl (by decide) rfl rfl (pa_cons (pe_call g_take (hr.mono (by omega)) (by rfl) m_take k_take b_take .nil pass0 (pa_cons (pv 0) (pa_cons pe_int pa_nil))) (pa_cons (pe_call g_word (hr.mono (by omega)) (by rfl) m_word k_word b_word .nil pass0 (pa_cons (pv 0) pa_nil)) pa_nil)) rfl)
      (pss_cons (ps_expr (pe_meth (pv 1) T_State.cl mt_State_put g_State_put (hr.mono (by omega)) b_State_put .nil pass0 (pa_cons (pv 5) (pa_cons (pv 6) pa_nil))))
      (pss_one (ps_asg (pv 6) (pg_sub (pv 2) (pv 5) set_list (fun _ => rfl)))))))
      (pss_cons (ps_for PassesOwn.never rfl (pi_range1 (by rfl) B.range_ (pa_cons (pe_ix (x_ix (K := K) rfl) (pe_tup (pa_cons pe_int (pa_cons pe_int (pa_cons pe_int pa_nil)))) (pe_call g_take (hr.mono (by omega)) (by rfl) m_take k_take b_take .nil pass0 (pa_cons (pv 0) (pa_cons pe_int pa_nil))) (fun _ _ => rfl)) pa_nil)) (pg_name (i := 4) sc_state.nd rfl (Or.inl rfl)) (pss_cons (ps_par (i := 7) (j := 6) rfl sc_state.nd rfl rfl (by decide) rfl rfl (pa_cons (pe_call g_name (hr.mono (by omega)) (by rfl) m_name k_name b_name .nil pass0 (pa_cons (pv 0) pa_nil)) (pa_cons (pe_call g_word (hr.mono (by omega)) (by rfl) m_word k_word b_word .nil pass0 (pa_cons (pv 0) pa_nil)) pa_nil)) rfl)
      (pss_cons (ps_expr (pe_meth (pv 1) T_State.cl mt_State_give g_State_give (hr.mono (by omega)) b_State_give .nil pass0 (pa_cons (pv 7) (pa_cons (pv 6) pa_nil))))
      (pss_one (ps_dput (hu_of hr) (pv 3) (pv 7) (pv 6) rfl)))))
      (pss_one (ps_ret (pe_tup (pa_cons (pv 1) (pa_cons (pv 2) (pa_cons (pv 3) pa_nil))))))))))
    h (fun us M Qu hd => ?_)
  obtain ⟨g, h, rfl, rfl, hb, k⟩ := hd
  have hsl : 1000000 ≤ sizeLine := by decide
  skip
  walk_at "go"
  refine ⟨by decide, by decide, by decide, ?_⟩
  walk_at "go"
  refine ⟨_, _, _, rfl, ?_⟩
  refine ⟨(fun ρ M => ∃ (cs : List Int) (g h : Int) (x_turn x_at x_word_here x_name_here : Option U), (cs.length = 64) ∧ (∀ w ∈ cs, wordI w) ∧ (bagOk g h) ∧ ρ = [some (.p 0), some (.p 1), some (.p 4), some (.p 5), x_turn, x_at, x_word_here, x_name_here] ∧ M = [bagO g h, stJ C_State 1, .lst (intL cs), .dic [], .lst (intL cs), .dic []]), ?_, ?_⟩
  · walk_at "go"
    refine ⟨_, _, 3, rfl, rfl, hb, by first | decide | omega | (simp only [List.length_map, len_kids]; omega) | (simp <;> omega), by first | decide | omega | (simp only [List.length_map, len_kids]; omega) | (simp <;> omega), fun r g h r_0 r_1 hb => ?_⟩
    walk_at "go"
    obtain ⟨m, hm, hm2⟩ := count_at [0, 20, 6] r r_0 (by show r < 3; exact r_1)
    have hmb : 0 ≤ m ∧ m ≤ 20 := by
      simp only [List.mem_cons, List.not_mem_nil, or_false] at hm2
      omega
    refine ⟨_, _, _, rfl, rfl, ix_t hm, ?_⟩
    walk_at "go"
    refine ⟨by omega, ?_⟩
    refine wLoop_rec (fun us ρ M => ∃ (cs : List Int) (g h : Int) (x_turn x_at x_word_here x_name_here : Option U), (cs.length = 64) ∧ (∀ w ∈ cs, wordI w) ∧ (bagOk g h) ∧ ρ = [some (.p 0), some (.p 1), some (.p 4), some (.p 5), x_turn, x_at, x_word_here, x_name_here] ∧ M = [bagO g h, stJ C_State 1, .lst (intL cs), .dic [], .lst (intL cs), .dic []]) ?_ ?_ _ _ _ ⟨List.replicate 64 0, _, _, _, _, _, _, rfl, (fun w hw => by rw [(List.mem_replicate.mp hw).2]; exact ⟨by decide, by decide⟩), hb, rfl, rfl⟩
    · rintro ρ M ⟨cs, g, h, x_turn, x_at, x_word_here, x_name_here, hl, hw, hb, rfl, rfl⟩
      refine ⟨trivial, ?_⟩
      exact ⟨cs, g, h, _, _, _, _, hl, hw, hb, rfl, rfl⟩
    · rintro u us ih ρ M ⟨cs, g, h, x_turn, x_at, x_word_here, x_name_here, hl, hw, hb, rfl, rfl⟩
      refine ⟨trivial, ?_⟩
      walk_at "go"
      refine ⟨_, _, 64, rfl, rfl, hb, by first | decide | omega | (simp only [List.length_map, len_kids]; omega) | (simp <;> omega), by first | decide | omega | (simp only [List.length_map, len_kids]; omega) | (simp <;> omega), fun a g h a_0 a_1 hb => ?_⟩
      walk_at "go"
      refine ⟨hb, fun wd g h wd0 wd1 hb => ?_⟩
      walk_at "go"
      refine ⟨cs, [], a, wd, rfl, rfl, a_0, by omega, ?_⟩
      walk_at "go"
      refine ⟨_, _, _, _, _, rfl, rfl, rfl, rfl, ix_at a_0 (by rw [show (intL cs).length = cs.length from List.length_map _]; omega), ?_⟩
      rw [set_intL]
      exact ih _ _ ⟨cs.set a.toNat wd, _, _, _, _, _, _, by rw [List.length_set]; exact hl, words_set hw ⟨wd0, wd1⟩ _, hb, rfl, rfl⟩
  · rintro ρ M ⟨cs, g, h, x_turn, x_at, x_word_here, x_name_here, hl, hw, hb, rfl, rfl⟩
    walk_at "go"
    refine ⟨_, _, 3, rfl, rfl, hb, by first | decide | omega | (simp only [List.length_map, len_kids]; omega) | (simp <;> omega), by first | decide | omega | (simp only [List.length_map, len_kids]; omega) | (simp <;> omega), fun r g h r_0 r_1 hb => ?_⟩
    walk_at "go"
    obtain ⟨m, hm, hm2⟩ := count_at [0, 6, 3] r r_0 (by show r < 3; exact r_1)
    have hmb : 0 ≤ m ∧ m ≤ 6 := by
      simp only [List.mem_cons, List.not_mem_nil, or_false] at hm2
      omega
    refine ⟨_, _, _, rfl, rfl, ix_t hm, ?_⟩
    walk_at "go"
    refine ⟨by omega, ?_⟩
    refine wLoop_rec (fun us ρ M => ∃ (j n : Nat) (kvs nk : KV) (g h : Int) (x_turn x_at x_word_here x_name_here : Option U), (us = intsU (j : Int) n) ∧ (j + n ≤ 6) ∧ (Tab kvs) ∧ (Tab nk) ∧ (∀ s, nat_ kvs s = nat_ nk s) ∧ (kvs.length ≤ j ∧ nk.length ≤ j) ∧ (NZ kvs) ∧ (bagOk g h) ∧ ρ = [some (.p 0), some (.p 1), some (.p 4), some (.p 5), x_turn, x_at, x_word_here, x_name_here] ∧ M = [bagO g h, stJ C_State 1, .lst (intL cs), .dic kvs, .lst (intL cs), .dic nk]) ?_ ?_ _ _ _ ⟨0, m.toNat, [], [], _, _, _, _, _, _, rfl, by omega, tab_nil, tab_nil, (fun _ => rfl), ⟨Nat.le_refl _, Nat.le_refl _⟩, nz_nil, hb, rfl, rfl⟩
    · rintro ρ M ⟨j, n, kvs, nk, g, h, x_turn, x_at, x_word_here, x_name_here, hu, hj, ht, ht2, hs, hle, hz, hb, rfl, rfl⟩
      refine ⟨trivial, ?_⟩
      walk_at "go"
      have htw : Twin cs kvs nk := ⟨⟨hl, hw, ht, by omega⟩, ⟨hl, hw, ht2, by omega⟩, hs, by omega, hz⟩
      exact .inl ⟨7, (by show (1 : Nat) ≤ 7; decide), Nat.le_refl _, (by show (6 : Nat) < 7; decide), okJ7, k _ _ _ _ _ htw hb⟩
    · rintro u us ih ρ M ⟨j, n, kvs, nk, g, h, x_turn, x_at, x_word_here, x_name_here, hu, hj, ht, ht2, hs, hle, hz, hb, rfl, rfl⟩
      cases n with
      | zero => cases hu
      | succ n =>
        rw [intsU_succ] at hu
        injection hu with e1 e2
        subst e1
        refine ⟨trivial, ?_⟩
        walk_at "go"
        refine ⟨hb, fun nm g h hnm hb => ?_⟩
        walk_at "go"
        refine ⟨hb, fun wd g h wd0 wd1 hb => ?_⟩
        walk_at "go"
        have l1 := give_len kvs nm wd
        have l2 := putD_len nk (.inr nm) (.int wd)
        refine ⟨cs, kvs, nm, wd, rfl, rfl, by omega, ?_⟩
        walk_at "go"
        refine ⟨_, _, _, _, _, rfl, rfl, rfl, rfl, rfl, by omega, ?_⟩
        exact ih _ _ ⟨j + 1, n, giveD kvs nm wd, putD nk (.inr nm) (.int wd), _, _, _, _, _, _, by rw [e2]; rfl, by omega, tab_give ht ⟨wd0, wd1⟩ hnm, tab_put ht2 ⟨wd0, wd1⟩ hnm, (fun s => by rw [nat_give, nat_put, hs]), ⟨by omega, by omega⟩, nz_give hz nm wd, hb, rfl, rfl⟩

/-! ### worths -/
abbrev s_worths : Stmt := top 39
theorem sc_worths : FnScope ["_law_web_here", "_law_cells", "_law_names", "_law_found", "_law_op", "_law_mark", "_law_kids", "_law_some", "_law_kid"] ["_law_web_here", "_law_cells", "_law_names"] (defScope s_worths) := ⟨rfl, rfl, rfl, by decide +kernel, rfl, by decide +kernel, by decide +kernel⟩
theorem ok_worths {f : Addr} {fd : FuncData} (F : Fun K "_law_worths" "_law_worths" s_worths f fd) (B : Bln mg) (G : Gln w K mg)
    {f_reckoned : Addr} {fd_reckoned : FuncData} (g_reckoned : FnOk P w K mg base CX0 1 f_reckoned fd_reckoned ["_law_op", "_law_one", "_law_other"] (liftSp sp_reckoned)) (m_reckoned : mg "_law_reckoned" = some (.ref f_reckoned)) (k_reckoned : PySem.W.keepIn K (.ref f_reckoned) = true) (b_reckoned : Binds K fd_reckoned ["_law_op", "_law_one", "_law_other"] [])
    : FnOk P w K mg base CX0 2 f fd ["_law_web_here", "_law_cells", "_law_names"] (liftSp sp_worths) := by
  refine F.ok sc_worths (lift_len (by rintro us M Q h; obtain ⟨_, _, _, _, rfl, _⟩ := h; rfl)) (fun cdv A outer s H vs Q E hr h => ?_)
  refine def_ok ((ls_seq (ls_asg (le_lstC la_nil) (lg_name (i := 3)))
      (ls_seq (ls_for (li_list (K := K) (le_sl (K := K) (le_var (i := 0)) lo_none (lo_some (le_un lu_neg le_int)))) (lg_tup (K := K) (n := 3) (lgs_cons (lg_name (i := 4)) (lgs_cons (lg_name (i := 5)) (lgs_cons (lg_name (i := 6)) lgs_nil)))) (ls_tr (ls_seq (ls_asg (le_op (lr_add (K := K)) (le_lc (li_tup (K := K) (le_var (i := 6))) (lgv_name (i := 8) (by decide)) lt_yes (le_op (lr_ix (K := K)) (le_var (i := 3)) (le_var (i := 8)))) (le_lst (la_cons le_int (la_cons le_int la_nil)))) (lg_name (i := 7)))
      (ls_if (lt_test (le_op (lr_eq (K := K)) (le_var (i := 4)) le_str)) (ls_drop (le_bm (K := K) (ty_list (K := K)) lm_append (le_var (i := 3)) (la_cons (le_var (i := 5)) la_nil))) (ls_if (lt_test (le_op (lr_eq (K := K)) (le_var (i := 4)) le_str)) (ls_drop (le_bm (K := K) (ty_list (K := K)) lm_append (le_var (i := 3)) (la_cons (le_dget2 (le_var (i := 2)) (le_var (i := 5)) le_int) la_nil))) (ls_if (lt_test (le_op (lr_eq (K := K)) (le_var (i := 4)) le_str)) (ls_drop (le_bm (K := K) (ty_list (K := K)) lm_append (le_var (i := 3)) (la_cons (le_op (lr_ix (K := K)) (le_var (i := 1)) (le_op lr_mod (le_op (lr_ix (K := K)) (le_var (i := 7)) le_int) le_int)) la_nil))) (ls_drop (le_bm (K := K) (ty_list (K := K)) lm_append (le_var (i := 3)) (la_cons (le_op lr_mod (le_callP (dv := []) (fun _ => .nil) (la_cons (le_var (i := 4)) (la_cons (le_op (lr_ix (K := K)) (le_var (i := 7)) le_int) (la_cons (le_op (lr_ix (K := K)) (le_var (i := 7)) le_int) la_nil)))) le_int) la_nil)))))))))
      (ls_ret (le_var (i := 3))))))
    ((pss_cons (ps_set (i := 3) sc_worths.nd rfl (Or.inr rfl) (pe_lst pa_nil))
      (pss_cons (ps_for PassesOwn.never rfl (pi_list (pe_slice (x_sl (K := K) rfl) (pv 0) po_none (po_some (pe_un un_neg pe_int)))) (pg_tup rfl (pgs_cons (pg_name (i := 4) sc_worths.nd rfl (Or.inl rfl)) (pgs_cons (pg_name (i := 5) sc_worths.nd rfl (Or.inl rfl)) (pgs_cons (pg_name (i := 6) sc_worths.nd rfl (Or.inl rfl)) pgs_nil)))) (pss_cons (ps_set (i := 7) sc_worths.nd rfl (Or.inl rfl) (pe_op (x_add (K := K) rfl) (pe_lc (own := [("_law_kid", 8)]) rfl sc_worths.nd (pi_tup (pv 6)) (blkOk_by (N := ["_law_web_here", "_law_cells", "_law_names", "_law_found", "_law_op", "_law_mark", "_law_kids", "_law_some", "_law_kid"]) (sc := defScope s_worths) (by decide +kernel)) (fun _ _ _ _ _ => (pg_name (i := 8) sc_worths.nd rfl (Or.inl rfl))) (fun _ _ _ _ _ => pts_nil) (fun _ _ _ _ _ => (pe_ix (x_ix (K := K) rfl) (pv 3) (pv 8) (fun _ _ => rfl)))) (pe_lst (pa_cons pe_int (pa_cons pe_int pa_nil)))))
      (pss_one (ps_if (pt_cmpR (x_eq (K := K) rfl (hu64 hr)) (pv 4) pe_str (by first | exact nomark _ | rfl)) (pss_one (ps_expr (pe_bm PySem.F.plainAttrs_list PySem.F.slot_list_append PySem.F.type_list_append mt_append (pv 3) (pa_cons (pv 5) pa_nil)))) (pss_one (ps_if (pt_cmpR (x_eq (K := K) rfl (hu64 hr)) (pv 4) pe_str (by first | exact nomark _ | rfl)) (pss_one (ps_expr (pe_bm PySem.F.plainAttrs_list PySem.F.slot_list_append PySem.F.type_list_append mt_append (pv 3) (pa_cons (pe_dget2 (hu_of hr) (pv 2) (pv 5) pe_int ⟨by rfl, by rfl, by rfl, by rfl⟩) pa_nil)))) (pss_one (ps_if (pt_cmpR (x_eq (K := K) rfl (hu64 hr)) (pv 4) pe_str (by first | exact nomark _ | rfl)) (pss_one (ps_expr (pe_bm PySem.F.plainAttrs_list PySem.F.slot_list_append PySem.F.type_list_append mt_append (pv 3) (pa_cons (pe_ix (x_ix (K := K) rfl) (pv 1) (pe_op op_mod (pe_ix (x_ix (K := K) rfl) (pv 7) pe_int (fun _ _ => rfl)) pe_int) (fun _ _ => rfl)) pa_nil)))) (pss_one (ps_expr (pe_bm PySem.F.plainAttrs_list PySem.F.slot_list_append PySem.F.type_list_append mt_append (pv 3) (pa_cons (pe_op op_mod (pe_call g_reckoned (hr.mono (by omega)) (by rfl) m_reckoned k_reckoned b_reckoned .nil pass0 (pa_cons (pv 4) (pa_cons (pe_ix (x_ix (K := K) rfl) (pv 7) pe_int (fun _ _ => rfl)) (pa_cons (pe_ix (x_ix (K := K) rfl) (pv 7) pe_int (fun _ _ => rfl)) pa_nil)))) pe_int) pa_nil))))))))))))
      (pss_one (ps_ret (pv 3))))))
    h (fun us M Qu hd => ?_)
  obtain ⟨nds, dd, cells, kvs, rfl, rfl, ok, wok, k⟩ := hd
  have hsl : 1000000 ≤ sizeLine := by decide
  have hl := ok.len
  skip
  walk_at "go"
  rw [List.map_append, show List.map encNd [dd] = [encNd dd] from rfl, cut_last]
  refine wLoop_rec (fun us ρ M => ∃ (rs : List NdT) (ws : List Int) (x_op x_mark x_kids x_some x_kid : Option U), (us = (rs.map encNd).map U.d) ∧ (okRun rs ws.length) ∧ (ws.length + rs.length = nds.length) ∧ (runW cells (nat_ kvs) rs ws = runW cells (nat_ kvs) nds []) ∧ (∀ w ∈ ws, wordI w) ∧ ρ = [some (.d ((.list (nds.map encNd ++ [encNd dd])))), some (.p 0), some (.p 1), some (.p 2), x_op, x_mark, x_kids, x_some, x_kid] ∧ M = [.lst (intL cells), .dic kvs, .lst (intL ws)]) ?_ ?_ _ _ _ ⟨nds, [], _, _, _, _, _, rfl, wok.run, by simp, rfl, (fun _ hx => (nomatch hx)), rfl, rfl⟩
  · rintro ρ M ⟨rs, ws, x_op, x_mark, x_kids, x_some, x_kid, hu, hr, hlen, hrun, hw, rfl, rfl⟩
    cases rs with
    | cons r rs => cases hu
    | nil =>
    refine ⟨trivial, ?_⟩
    have ew : ws = runW cells (nat_ kvs) nds [] := hrun
    subst ew
    walk_at "go"
    exact .inl ⟨3, (by show (2 : Nat) ≤ 3; decide), Nat.le_refl _, (by show (2 : Nat) < 3; decide), by simp [okOb], k⟩
  · rintro u us ih ρ M ⟨rs, ws, x_op, x_mark, x_kids, x_some, x_kid, hu, hr, hlen, hrun, hw, rfl, rfl⟩
    cases rs with
    | nil => cases hu
    | cons n rs =>
    obtain ⟨op, mark, kids⟩ := n
    obtain ⟨rfl, rfl⟩ : u = U.d (encNd (op, mark, kids)) ∧ us = (rs.map encNd).map U.d := by simpa using hu
    have hk2 : kids.length ≤ 100 := hr.2.1.1
    have hwl := wok.len
    have hlen2 : ws.length + (rs.length + 1) = nds.length := hlen
    have hsw := some_word hw kids
    have hsl2 := some_len ws kids
    refine ⟨trivial, ?_⟩
    walk_at "go"
    refine map_go trivial kids (fun k : Nat => PyData.int (k : Int)) (fun k => .int (ws.getD k 0)) (fun x acc R hx hac hR => ?_) ?_
    · walk_at "go"
      refine ⟨_, _, _, rfl, rfl, ix_l (nat_at (by have := hr.2.1.2 x hx; omega)), by rw [List.length_map]; omega, ?_⟩
      rw [List.map_append] at hR; exact hR
    refine ⟨_, dats_map _, ?_⟩
    rw [some_nat]
    walk_at "go"
    have ho : okPart op mark (someW ws kids).length := by rw [some_len]; exact hr.1
    have hnext : ∀ v, v = partW cells (nat_ kvs) op mark (someW ws kids) → wordI v ∧ okRun rs (ws ++ [v]).length ∧ (ws ++ [v]).length + rs.length = nds.length ∧ runW cells (nat_ kvs) rs (ws ++ [v]) = runW cells (nat_ kvs) nds [] ∧ (∀ w ∈ ws ++ [v], wordI w) := fun v e => by
      subst e
      have hv := part_word ok.words (nat_word ok.tab.1) ho
      refine ⟨hv, by rw [List.length_append]; exact hr.2.2, by rw [List.length_append]; show ws.length + 1 + rs.length = nds.length; omega, hrun, fun w hw2 => ?_⟩
      rcases List.mem_append.mp hw2 with hw2 | hw2
      · exact hw w hw2
      · rw [List.mem_singleton.mp hw2]; exact hv
    have hwsl : (intL ws).length = ws.length := List.length_map _
    generalize someW ws kids = so at *
    have h0 := getD_word hsw 0
    have h1 := getD_word hsw 1
    refine ⟨_, _, _, _, rfl, rfl, rfl, by rw [show (intL so).length = so.length from List.length_map _]; show so.length + 2 ≤ sizeLine; omega, ?_⟩
    walk_at "go"
    skip
    have hcalc : (∃ op', op' = op ∧ op ∈ (["neg", "not", "add", "sub", "mul", "and", "or", "xor"] : List Str)) ∨ (op = "num" ∨ op = "var" ∨ op = "load") := by
      rcases ho with ⟨rfl, _⟩ | ⟨rfl, _⟩ | ⟨h, _⟩ | ⟨h, _⟩
      · exact .inr (.inl rfl)
      · exact .inr (.inr (.inl rfl))
      · simp only [List.mem_cons, List.not_mem_nil, or_false] at h
        rcases h with rfl | rfl | rfl
        · exact .inr (.inr (.inr rfl))
        · exact .inl ⟨_, rfl, by decide +kernel⟩
        · exact .inl ⟨_, rfl, by decide +kernel⟩
      · simp only [List.mem_cons, List.not_mem_nil, or_false] at h
        rcases h with rfl | rfl | rfl | rfl | rfl | rfl <;> exact .inl ⟨_, rfl, by decide +kernel⟩
    rcases hcalc with ⟨_, _, hop⟩ | hop
    · have n1 : ¬ op = "num" := fun e => by subst e; exact absurd hop (by decide +kernel)
      have n2 : ¬ op = "var" := fun e => by subst e; exact absurd hop (by decide +kernel)
      have n3 : ¬ op = "load" := fun e => by subst e; exact absurd hop (by decide +kernel)
      have hh := hnext (reck op (so.getD 0 0) (so.getD 1 0) % 65536) (by unfold partW; rw [if_neg n1, if_neg n2, if_neg n3])
      rw [eqv_s, decide_eq_false n1]
      walk_at "go"
      rw [eqv_s, decide_eq_false n2]
      walk_at "go"
      rw [eqv_s, decide_eq_false n3]
      walk_at "go"
      refine ⟨.inl ⟨_, rfl⟩, ?_⟩
      walk_at "go"
      refine ⟨_, _, _, rfl, rfl, ix_l (pad0 so), ?_⟩
      walk_at "go"
      refine ⟨_, _, _, rfl, rfl, ix_l (pad1 so), ?_⟩
      walk_at "go"
      refine ⟨op, _, _, rfl, rfl, h0, h1, hop, fun r hr2 => ?_⟩
      walk_at "go"
      refine ⟨_, _, _, _, rfl, rfl, rfl, (by decide : (0 : Int) < 65536), ?_⟩
      walk_at "go"
      simp only [hr2]
      (refine ⟨by omega, ?_⟩; rw [snoc_intL]; refine ⟨Nat.le_refl _, by simp [okOb], ?_⟩; exact ih _ _ ⟨rs, ws ++ [_], _, _, _, _, _, rfl, hh.2.1, hh.2.2.1, hh.2.2.2.1, hh.2.2.2.2, rfl, rfl⟩)
    · rcases hop with rfl | rfl | rfl
      · rcases ho with ⟨_, m, rfl, hm⟩ | ⟨h, _⟩ | ⟨h, _⟩ | ⟨h, _⟩
        · have hh := hnext m rfl
          walk_at "go"
          refine ⟨.inl ⟨_, rfl⟩, ?_⟩
          walk_at "go"
          (refine ⟨by omega, ?_⟩; rw [snoc_intL]; refine ⟨Nat.le_refl _, by simp [okOb], ?_⟩; exact ih _ _ ⟨rs, ws ++ [_], _, _, _, _, _, rfl, hh.2.1, hh.2.2.1, hh.2.2.2.1, hh.2.2.2.2, rfl, rfl⟩)
        · exact absurd h (by decide +kernel)
        · exact absurd h (by decide +kernel)
        · exact absurd h (by decide +kernel)
      · rcases ho with ⟨h, _⟩ | ⟨_, s, rfl⟩ | ⟨h, _⟩ | ⟨h, _⟩
        · exact absurd h (by decide +kernel)
        · have hh := hnext (nat_ kvs s) rfl
          walk_at "go"
          refine ⟨.inl ⟨_, rfl⟩, ?_⟩
          walk_at "go"
          refine ⟨fun d hd => ?_, fun hn => ?_⟩
          · rcases nums_val ok.tab.1 s with e | ⟨v, e, hv⟩
            · rw [e] at hd; cases hd
            · have e2 : nat_ kvs s = v := by unfold nat_; rw [e]
              rw [e] at hd; cases hd
              rw [e2] at hh
              walk_at "go"
              (refine ⟨by omega, ?_⟩; rw [snoc_intL]; refine ⟨Nat.le_refl _, by simp [okOb], ?_⟩; exact ih _ _ ⟨rs, ws ++ [_], _, _, _, _, _, rfl, hh.2.1, hh.2.2.1, hh.2.2.2.1, hh.2.2.2.2, rfl, rfl⟩)
          · have e2 : nat_ kvs s = 0 := by unfold nat_; rw [hn]
            rw [e2] at hh
            walk_at "go"
            (refine ⟨by omega, ?_⟩; rw [snoc_intL]; refine ⟨Nat.le_refl _, by simp [okOb], ?_⟩; exact ih _ _ ⟨rs, ws ++ [_], _, _, _, _, _, rfl, hh.2.1, hh.2.2.1, hh.2.2.2.1, hh.2.2.2.2, rfl, rfl⟩)
        · exact absurd h (by decide +kernel)
        · exact absurd h (by decide +kernel)
      · have hh := hnext (cells.getD (so.getD 0 0 % 64).toNat 0) rfl
        walk_at "go"
        refine ⟨.inl ⟨_, rfl⟩, ?_⟩
        walk_at "go"
        refine ⟨_, _, _, rfl, rfl, ix_l (pad0 so), ?_⟩
        walk_at "go"
        refine ⟨_, _, _, _, rfl, rfl, rfl, (by decide : (0 : Int) < 64), ?_⟩
        walk_at "go"
        refine ⟨_, _, _, rfl, rfl, ix_l (cells_at (Int.emod_nonneg _ (by decide)) (by rw [hl]; exact Int.emod_lt_of_pos _ (by decide))), ?_⟩
        walk_at "go"
        (refine ⟨by omega, ?_⟩; rw [snoc_intL]; refine ⟨Nat.le_refl _, by simp [okOb], ?_⟩; exact ih _ _ ⟨rs, ws ++ [_], _, _, _, _, _, rfl, hh.2.1, hh.2.2.1, hh.2.2.2.1, hh.2.2.2.2, rfl, rfl⟩)
/-! ### beneath -/
abbrev s_beneath : Stmt := top 43
theorem sc_beneath : FnScope ["_law_web_here", "_law_at", "_law_found", "_law_left", "_law_here"] ["_law_web_here", "_law_at"] (defScope s_beneath) := ⟨rfl, rfl, rfl, by decide +kernel, rfl, by decide +kernel, by decide +kernel⟩
theorem ok_beneath {f : Addr} {fd : FuncData} (F : Fun K "_law_beneath" "_law_beneath" s_beneath f fd) (B : Bln mg) (G : Gln w K mg)
    : FnOk P w K mg base CX0 1 f fd ["_law_web_here", "_law_at"] (liftSp sp_beneath) := by
  refine F.ok sc_beneath (lift_len (by rintro us M Q h; obtain ⟨_, _, rfl, _⟩ := h; rfl)) (fun cdv A outer s H vs Q E hr h => ?_)
  refine def_ok ((ls_seq (ls_par (i := 2) (j := 3) (la_cons (le_lstC la_nil) (la_cons (le_lstC (la_cons (le_var (i := 1)) la_nil)) la_nil)))
      (ls_cut (ls_while (lt_test (le_op (lr_ne (K := K)) (le_var (i := 3)) (le_lst la_nil))) (ls_seq (ls_asg (le_bm0 (K := K) (ty_list (K := K)) lm_pop (le_var (i := 3))) (lg_name (i := 4)))
      (ls_if (lt_test (le_op (lr_notIn (K := K)) (le_var (i := 4)) (le_var (i := 2)))) (ls_seq (ls_drop (le_bm (K := K) (ty_list (K := K)) lm_append (le_var (i := 2)) (la_cons (le_var (i := 4)) la_nil)))
      (ls_drop (le_bm (K := K) (ty_list (K := K)) lm_extend (le_var (i := 3)) (la_cons (le_cb (lc_listOf (K := K)) (la_cons (le_op (lr_ix (K := K)) (le_op (lr_ix (K := K)) (le_var (i := 0)) (le_var (i := 4))) le_int) la_nil)) la_nil)))) ls_next)))
      (ls_frz (i := 2) (ls_ret (le_var (i := 2)))))))
    ((pss_cons (ps_par (i := 2) (j := 3) rfl sc_beneath.nd rfl rfl (by decide) rfl rfl (pa_cons (pe_lst pa_nil) (pa_cons (pe_lst (pa_cons (pv 1) pa_nil)) pa_nil)) rfl)
      (pss_cons (ps_while PassesOwn.never (pt_cmpR (x_ne (K := K) rfl (hu64 hr)) (pv 3) (pe_lst pa_nil) (by first | exact nomark _ | rfl)) (pss_cons (ps_set (i := 4) sc_beneath.nd rfl (Or.inl rfl) (pe_bm0 PySem.F.plainAttrs_list PySem.F.slot_list_pop PySem.F.type_list_pop mt_pop (pv 3)))
      (pss_one (ps_if (pt_cmpR (x_notIn (K := K) rfl (hu65 hr)) (pv 4) (pv 2) (by first | exact nomark _ | rfl)) (pss_cons (ps_expr (pe_bm PySem.F.plainAttrs_list PySem.F.slot_list_append PySem.F.type_list_append mt_append (pv 2) (pa_cons (pv 4) pa_nil)))
      (pss_one (ps_expr (pe_bm PySem.F.plainAttrs_list PySem.F.slot_list_extend PySem.F.type_list_extend mt_extend (pv 3) (pa_cons (pe_callTy (x_listOf (K := K) rfl) (by rfl) B.list_ bt_list (pa_cons (pe_ix (x_ix (K := K) rfl) (pe_ix (x_ix (K := K) rfl) (pv 0) (pv 4) (fun _ _ => rfl)) pe_int (fun _ _ => rfl)) pa_nil)) pa_nil))))) pss_nil))))
      (pss_one (ps_ret (pv 2))))))
    h (fun us M Qu hd => ?_)
  obtain ⟨web, a, rfl, rfl, hk, ha, hwl, k⟩ := hd
  have hsl : 1000000 ≤ sizeLine := by decide
  skip
  walk_at "go"
  refine ⟨(fun ρ M => ∃ (F : List Nat) (x_here : Option U), (Bn web a F []) ∧ ρ = [some (.d ((encWeb web))), some (.d (.int ((a : Int)))), some (.p 0), some (.p 1), x_here] ∧ M = [.lst (encKids F), .lst []]), ?_, ?_⟩
  · refine ⟨fun m => (fun ρ M => ∃ (F S : List Nat) (x_here : Option U), (m = 3 * (web.length - F.length) + S.length) ∧ (Bn web a F S) ∧ (S.length ≤ 3 * F.length + 1) ∧ (F.length ≤ web.length) ∧ ρ = [some (.d ((encWeb web))), some (.d (.int ((a : Int)))), some (.p 0), some (.p 1), x_here] ∧ M = [.lst (encKids F), .lst (encKids S)]), ⟨_, ⟨[], [a], _, rfl, ⟨List.nodup_nil, fun x hx => (nomatch hx), fun x hx => by rw [List.mem_singleton.mp hx]; exact ha, .inr (by simp), fun x hx => (nomatch hx)⟩, by simp, Nat.zero_le _, rfl, rfl⟩⟩, ?_⟩
    rintro m ρ M ⟨F, S, x_here, hm, h, hl, hF, rfl, rfl⟩
    rcases List.eq_nil_or_concat S with rfl | ⟨S, x, rfl⟩
    · walk_at "go"
      refine ⟨_, _, _, _, rfl, rfl, rfl, .inr ⟨kids_shaped [], by decide⟩, ?_⟩
      refine ⟨_, rfl, ?_⟩
      walk_at "go"
      exact ⟨F, _, h, rfl, rfl⟩
    · rw [List.concat_eq_append] at *
      have hx := h.ls x (by simp)
      have hw := ndAt_enc (web := web) (i := x) hx
      have hk2 := (hk x).2
      rw [List.length_append, List.length_singleton] at hl hm
      walk_at "go"
      refine ⟨_, _, _, _, rfl, rfl, rfl, .inr ⟨kids_shaped (S ++ [x]), by decide⟩, ?_⟩
      refine ⟨_, rfl, ?_⟩
      rw [show PyData.eqv (.list (encKids (S ++ [x]))) (.list []) = false by cases S <;> rfl]
      walk_at "go"
      refine ⟨.inl ⟨_, rfl⟩, ?_⟩
      have e1 : encKids (S ++ [x]) = encKids S ++ [.int (x : Int)] := by unfold encKids; rw [List.map_append]; rfl
      walk_at "go"
      refine ⟨1, _, .int (x : Int), rfl, rfl, rfl, by rw [e1]; simp, ?_⟩
      rw [show (encKids (S ++ [x])).dropLast = encKids S by rw [e1, List.dropLast_concat]]
      walk_at "go"
      refine ⟨_, _, _, _, rfl, rfl, rfl, ⟨rfl, kids_shaped F⟩, ?_⟩
      rw [kids_in]
      refine ⟨_, rfl, ?_⟩
      by_cases hxF : x ∈ F
      · rw [decide_eq_true hxF]
        walk_at "go"
        refine ⟨3 * (web.length - F.length) + S.length, by omega, ⟨F, S, _, rfl, bn_skip h hxF, by omega, hF, rfl, rfl⟩⟩
      · rw [decide_eq_false hxF]
        have h2 := bn_take hk h hxF
        have hFl := nodup_sub (ys := List.range web.length) h2.nd fun y hy => List.mem_range.mpr (h2.lt y hy)
        rw [List.length_range, List.length_append, List.length_singleton] at hFl
        walk_at "go"
        refine ⟨.inl ⟨_, rfl⟩, ?_⟩
        walk_at "go"
        refine ⟨by rw [len_kids]; omega, ?_⟩
        rw [show encKids F ++ [.int (x : Int)] = encKids (F ++ [x]) by unfold encKids; rw [List.map_append]; rfl]
        walk_at "go"
        refine ⟨.inl ⟨_, rfl⟩, ?_⟩
        walk_at "go"
        refine ⟨_, _, _, rfl, rfl, ix_l hw, ?_⟩
        walk_at "go"
        refine ⟨_, _, _, _, rfl, rfl, rfl, rfl, by rw [len_kids, len_kids]; omega, ?_⟩
        rw [show encKids S ++ encKids (kidsAt web x) = encKids (S ++ kidsAt web x) from (List.map_append ..).symm]
        refine ⟨3 * (web.length - (F.length + 1)) + (S ++ kidsAt web x).length, by rw [List.length_append]; omega, ⟨F ++ [x], S ++ kidsAt web x, _, by rw [List.length_append (as := F), List.length_singleton], h2, by rw [List.length_append, List.length_append, List.length_singleton]; omega, by rw [List.length_append, List.length_singleton]; exact hFl, rfl, rfl⟩⟩
  rintro ρ M ⟨F, x_here, h, rfl, rfl⟩
  walk_at "go"
  exact fin_d0 (k F (bn_end h))
/-! ### pattern_word -/
abbrev s_pattern_word : Stmt := top 41
theorem sc_pattern_word : FnScope ["_law_pattern_here", "_law_needs", "_law_marks", "_law_cells", "_law_names", "_law_some", "_law_one"] ["_law_pattern_here", "_law_needs", "_law_marks", "_law_cells", "_law_names"] (defScope s_pattern_word) := ⟨rfl, rfl, rfl, by decide +kernel, rfl, by decide +kernel, by decide +kernel⟩
theorem ok_pattern_word {f : Addr} {fd : FuncData} (F : Fun K "_law_pattern_word" "_law_pattern_word" s_pattern_word f fd) (B : Bln mg) (G : Gln w K mg) (m_pattern_word : mg "_law_pattern_word" = some (.ref f)) (k_pattern_word : PySem.W.keepIn K (.ref f) = true) (b_pattern_word : Binds K fd ["_law_pattern_here", "_law_needs", "_law_marks", "_law_cells", "_law_names"] [])
    {f_reckoned : Addr} {fd_reckoned : FuncData} (g_reckoned : FnOk P w K mg base CX0 1 f_reckoned fd_reckoned ["_law_op", "_law_one", "_law_other"] (liftSp sp_reckoned)) (m_reckoned : mg "_law_reckoned" = some (.ref f_reckoned)) (k_reckoned : PySem.W.keepIn K (.ref f_reckoned) = true) (b_reckoned : Binds K fd_reckoned ["_law_op", "_law_one", "_law_other"] [])
    : ∀ lv : Nat, FnOk P w K mg base CX0 (lv + 2) f fd ["_law_pattern_here", "_law_needs", "_law_marks", "_law_cells", "_law_names"] (liftSp (sp_pattern_word lv)) := by
  intro lv
  induction lv with
  | zero =>
    refine ⟨lift_len (by rintro us M Q h; unfold sp_pattern_word at h; obtain ⟨_, _, _, _, _, _, _, _, _, _, rfl, _⟩ := h; rfl), fun A outer s H args us vs Q E _ _ _ _ h => ?_⟩
    obtain ⟨_, M, us, Qu, _, _, h, _⟩ := h
    unfold sp_pattern_word at h; obtain ⟨_, _, _, _, p, _, _, _, _, _, _, _, _, _, _, _, _, _, _, hd, _⟩ := h; exact absurd hd (by cases p <;> simp [Pat.depth])
  | succ lv g_pattern_word =>
  refine F.ok sc_pattern_word (lift_len (by rintro us M Q h; unfold sp_pattern_word at h; obtain ⟨_, _, _, _, _, _, _, _, _, _, rfl, _⟩ := h; rfl)) (fun cdv A outer s H vs Q E hr h => ?_)
  refine def_ok ((ls_seq (ls_if (lt_B (le_isiC (K := K) .str (le_var (i := 0)))) (ls_ret (le_bm (K := K) (ty_list (K := K)) lm_popAt (le_var (i := 1)) (la_cons le_int la_nil))) ls_next)
      (ls_seq (ls_if (lt_test (le_op (lr_eq (K := K)) (le_op (lr_ix (K := K)) (le_var (i := 0)) le_int) le_str)) (ls_ret (le_bm (K := K) (ty_list (K := K)) lm_popAt (le_var (i := 2)) (la_cons le_int la_nil))) ls_next)
      (ls_seq (ls_if (lt_test (le_op (lr_eq (K := K)) (le_op (lr_ix (K := K)) (le_var (i := 0)) le_int) le_str)) (ls_ret (le_dget2 (le_var (i := 4)) (le_bm (K := K) (ty_list (K := K)) lm_popAt (le_var (i := 2)) (la_cons le_int la_nil)) le_int)) ls_next)
      (ls_seq (ls_asg (le_op (lr_add (K := K)) (le_lc (li_tup (K := K) (le_sl (K := K) (le_var (i := 0)) (lo_some le_int) lo_none)) (lgv_name (i := 6) (by decide)) lt_yes (le_callC (is := [0, 1, 2, 3]) (dv := []) (fun _ => .nil) (la_cons (le_var (i := 6)) (la_cons (le_var (i := 1)) (la_cons (le_var (i := 2)) (la_cons (le_var (i := 3)) (la_cons (le_var (i := 4)) la_nil))))))) (le_lst (la_cons le_int la_nil))) (lg_name (i := 5)))
      (ls_seq (ls_if (lt_test (le_op (lr_eq (K := K)) (le_op (lr_ix (K := K)) (le_var (i := 0)) le_int) le_str)) (ls_ret (le_op (lr_ix (K := K)) (le_var (i := 3)) (le_op lr_mod (le_op (lr_ix (K := K)) (le_var (i := 5)) le_int) le_int))) ls_next)
      (ls_ret (le_op lr_mod (le_callP (dv := []) (fun _ => .nil) (la_cons (le_op (lr_ix (K := K)) (le_var (i := 0)) le_int) (la_cons (le_op (lr_ix (K := K)) (le_var (i := 5)) le_int) (la_cons (le_op (lr_ix (K := K)) (le_var (i := 5)) le_int) la_nil)))) le_int))))))))
    ((pss_cons (ps_if (pt_val (pe_callB (x_isi (K := K) rfl) (by rfl) B.isinstance_ bt_isinstance (pa_cons (pv 0) (pa_cons (pe_bltn (by rfl) B.str_ bt_str (v := .ty "str") rfl) pa_nil)))) (pss_one (ps_ret (pe_bm PySem.F.plainAttrs_list PySem.F.slot_list_pop PySem.F.type_list_pop mt_popAt (pv 1) (pa_cons pe_int pa_nil)))) pss_nil)
      (pss_cons (ps_if (pt_cmpR (x_eq (K := K) rfl (hu64 hr)) (pe_ix (x_ix (K := K) rfl) (pv 0) pe_int (fun _ _ => rfl)) pe_str (by first | exact nomark _ | rfl)) (pss_one (ps_ret (pe_bm PySem.F.plainAttrs_list PySem.F.slot_list_pop PySem.F.type_list_pop mt_popAt (pv 2) (pa_cons pe_int pa_nil)))) pss_nil)
      (pss_cons (ps_if (pt_cmpR (x_eq (K := K) rfl (hu64 hr)) (pe_ix (x_ix (K := K) rfl) (pv 0) pe_int (fun _ _ => rfl)) pe_str (by first | exact nomark _ | rfl)) (pss_one (ps_ret (pe_dget2 (hu_of hr) (pv 4) (pe_bm PySem.F.plainAttrs_list PySem.F.slot_list_pop PySem.F.type_list_pop mt_popAt (pv 2) (pa_cons pe_int pa_nil)) pe_int ⟨by rfl, by rfl, by rfl, by rfl⟩))) pss_nil)
      (pss_cons (ps_set (i := 5) sc_pattern_word.nd rfl (Or.inl rfl) (pe_op (x_add (K := K) rfl) (pe_lc (own := [("_law_one", 6)]) rfl sc_pattern_word.nd (pi_tup (pe_slice (x_sl (K := K) rfl) (pv 0) (po_some pe_int) po_none)) (blkOk_by (N := ["_law_pattern_here", "_law_needs", "_law_marks", "_law_cells", "_law_names", "_law_some", "_law_one"]) (sc := defScope s_pattern_word) (by decide +kernel)) (fun _ _ _ _ _ => (pg_name (i := 6) sc_pattern_word.nd rfl (Or.inl rfl))) (fun _ _ _ _ _ => pts_nil) (fun _ _ _ _ _ => (pe_call g_pattern_word (hr.mono (by omega)) (by rfl) m_pattern_word k_pattern_word b_pattern_word .nil pass0 (pa_cons (pv 6) (pa_cons (pv 1) (pa_cons (pv 2) (pa_cons (pv 3) (pa_cons (pv 4) pa_nil)))))))) (pe_lst (pa_cons pe_int pa_nil))))
      (pss_cons (ps_if (pt_cmpR (x_eq (K := K) rfl (hu64 hr)) (pe_ix (x_ix (K := K) rfl) (pv 0) pe_int (fun _ _ => rfl)) pe_str (by first | exact nomark _ | rfl)) (pss_one (ps_ret (pe_ix (x_ix (K := K) rfl) (pv 3) (pe_op op_mod (pe_ix (x_ix (K := K) rfl) (pv 5) pe_int (fun _ _ => rfl)) pe_int) (fun _ _ => rfl)))) pss_nil)
      (pss_one (ps_ret (pe_op op_mod (pe_call g_reckoned (hr.mono (by omega)) (by rfl) m_reckoned k_reckoned b_reckoned .nil pass0 (pa_cons (pe_ix (x_ix (K := K) rfl) (pv 0) pe_int (fun _ _ => rfl)) (pa_cons (pe_ix (x_ix (K := K) rfl) (pv 5) pe_int (fun _ _ => rfl)) (pa_cons (pe_ix (x_ix (K := K) rfl) (pv 5) pe_int (fun _ _ => rfl)) pa_nil)))) pe_int)))))))))
    h (fun us M Qu hd => ?_)
  unfold sp_pattern_word at hd
  obtain ⟨parts, deed, cs, nk, p, a, ns, ms, r1, r2, rfl, rfl, ok, hp, hde, hpl, hf, ha, hg, hdp, hn, hm, k⟩ := hd
  have hsl : 1000000 ≤ sizeLine := by decide
  have ok1 := ok_run_of parts 0 (fun i n e => by rw [Nat.zero_add]; exact hp i n e)
  have hat := runW_at cs (nat_ nk) (parts.map Nd.tup) [] ok1 a (parts[a]).tup (by rw [List.getElem?_map, List.getElem?_eq_getElem ha]; rfl)
  rw [List.length_nil, Nat.zero_add] at hat
  have hgn := hp a _ (List.getElem?_eq_getElem ha)
  have hna : (parts ++ [deed])[a]? = some parts[a] := by rw [List.getElem?_append_left ha, List.getElem?_eq_getElem ha]
  obtain ⟨n, en⟩ : ∃ x, parts[a] = x := ⟨_, rfl⟩
  rw [en] at hat hgn hna
  have hat2 : (wsOf cs nk parts).getD a 0 = partW cs (nat_ nk) n.op n.mark (someW (wsOf cs nk parts) n.kids) := hat
  skip
  have numc : ∀ ds : List PyData, p.enc = .tuple (.str "num" :: ds) → n.op = "num" → ns = [] → ms = marks0 n → True := fun _ _ _ _ _ => trivial
  cases p with
  | kind kd =>
    simp only [fit, Option.some.injEq, Prod.mk.injEq] at hf
    obtain ⟨rfl, rfl⟩ := hf
    walk_at "go"
    refine ⟨.inl ⟨_, rfl⟩, ?_⟩
    walk_at "go"
    refine ⟨0, _, 0, 0, .int ((wsOf cs nk parts).getD a 0), rfl, rfl, rfl, ⟨by decide, by decide⟩, pop0_ok, rfl, ?_⟩
    exact fin_k [0, 1, 2, 3] rfl k
  | op o ps =>
    rw [Pat.enc]
    obtain ⟨ho1, ho2⟩ := hg
    have hon : o ≠ "num" ∧ o ≠ "var" := by
      rcases ho1 with ⟨q, _⟩ | ⟨q, _⟩
      · exact (ar1 _ q).2
      · exact (ar2 _ q).2
    have hfa : n.op = o ∧ ∃ n2 m2, fitAll (parts ++ [deed]) ps n.kids = some (n2, m2) ∧ ns = n2 ∧ ms = marks0 n ++ m2 := by
      unfold fit at hf
      rw [hna] at hf
      simp only at hf
      split at hf
      · rename_i e
        refine ⟨e, ?_⟩
        split at hf
        · cases hf
        · rename_i n2 m2 e2
          simp only [Option.some.injEq, Prod.mk.injEq] at hf
          exact ⟨n2, m2, e2, hf.1.symm, hf.2.symm⟩
      · cases hf
    obtain ⟨hop, n2, m2, hfa, en2, em2⟩ := hfa
    subst en2
    subst em2
    have hm0 : marks0 n = [] := by
      rcases hgn with ⟨q, _⟩ | ⟨q, _⟩ | ⟨_, q, _⟩ | ⟨_, q, _⟩
      · exact absurd (hop.symm.trans q) hon.1
      · exact absurd (hop.symm.trans q) hon.2
      · unfold marks0; rw [q]
      · unfold marks0; rw [q]
    rw [hm0, List.nil_append] at hm ⊢
    have hdp2 : Pat.depths ps ≤ lv := by simp only [Pat.depth] at hdp; omega
    have hpk : ps.length = n.kids.length := by
      rw [good_ar hgn, hop]
      unfold ar
      rw [if_neg (fun e => e.elim hon.1 hon.2)]
      rcases ho1 with ⟨q, e⟩ | ⟨q, e⟩
      · rw [if_pos (.inl q), e]
      · have := (ar2 _ q).1
        unfold ar at this
        rw [if_neg (fun e => e.elim hon.1 hon.2)] at this
        rw [this, e]
    have hklt : ∀ x ∈ n.kids, x < parts.length := fun x hx => Nat.lt_trans (good_kids hgn x hx) ha
    have hk2 : n.kids.length ≤ 2 := by
      rcases hgn with ⟨_, _, e⟩ | ⟨_, _, e⟩ | ⟨_, _, x, e, _⟩ | ⟨_, _, x, y, e, _, _⟩ <;> rw [e] <;> simp
    walk_at "go"
    refine wseq (fun e => absurd e hon.1) (fun _ => ?_)
    walk_at "go"
    refine wseq (fun e => absurd e hon.2) (fun _ => ?_)
    walk_at "go"
    rw [cut1]
    refine wLcGo_rec (fun us acc M => ∃ (dn td : List Pat) (dk tk : List Nat) (ns2 : List (Nat × Str)) (ms2 : List PyData), (ps = dn ++ td) ∧ (n.kids = dk ++ tk) ∧ (td.length = tk.length) ∧ (us = (td.map Pat.enc).map U.d) ∧ (acc = (dk.map fun k => PyData.int ((wsOf cs nk parts).getD k 0)).map U.d) ∧ (fitAll (parts ++ [deed]) td tk = some (ns2, ms2)) ∧ (ns2.length + r1.length ≤ 100000) ∧ (ms2.length + r2.length ≤ 100000) ∧ M = [.lst (intL (needW cs nk parts ns2 ++ r1)), .lst (ms2 ++ r2), .lst (intL cs), .dic nk]) ?_ ?_ _ _ _ ⟨[], ps, [], n.kids, ns, m2, rfl, rfl, hpk, by rw [encs_map], rfl, hfa, hn, hm, rfl⟩
    · rintro acc M ⟨dn, td, dk, tk, ns2, ms2, hps, hks, hl, hu, ha2, hf2, hn3, hm3, rfl⟩
      cases td with
      | cons a b => cases hu
      | nil =>
      have htk : tk = [] := List.eq_nil_of_length_eq_zero (by simpa using hl.symm)
      subst htk
      simp only [fitAll, Option.some.injEq, Prod.mk.injEq] at hf2
      obtain ⟨rfl, rfl⟩ := hf2
      rw [List.append_nil] at hks
      subst hks
      refine ⟨trivial, _, by rw [ha2]; exact dats_map _, ?_⟩
      have hww : ∀ w ∈ wsOf cs nk parts, wordI w := runW_word ok.words (nat_word ok.tab.1) _ _ ok1 (fun w hw => (nomatch hw))
      have hwx := fun i => getD_word hww i
      have hcl := ok.len
      rw [hop] at hat2
      walk_at "go"
      refine ⟨_, _, _, _, rfl, rfl, rfl, by rw [List.length_map]; show n.kids.length + 1 ≤ sizeLine; omega, ?_⟩
      rcases ho1 with ⟨q, e⟩ | ⟨q, e⟩
      · obtain ⟨x, ex⟩ := List.length_eq_one_iff.mp (hpk.symm.trans e)
        rw [ex] at hat2 ⊢
        obtain ⟨w1, ew1⟩ : ∃ x_, (wsOf cs nk parts).getD x 0 = x_ := ⟨_, rfl⟩
        have hw1 := hwx x
        have hat3 : (wsOf cs nk parts).getD a 0 = partW cs (nat_ nk) o n.mark [(wsOf cs nk parts).getD x 0] := hat2
        rw [ew1] at hat3 hw1
        simp only [List.map_cons, List.map_nil, List.cons_append, List.nil_append, ew1]
        walk_at "go"
        refine wseq (fun hld => ?_) (fun hld => ?_)
        · subst hld
          have hat4 : (wsOf cs nk parts).getD a 0 = cs.getD (w1 % 64).toNat 0 := hat3
          rw [hat4] at k
          walk_at "go"
          refine ⟨_, _, _, _, rfl, rfl, rfl, (by decide : (0 : Int) < 64), ?_⟩
          walk_at "go"
          refine ⟨_, _, _, rfl, rfl, ix_l (cells_at (Int.emod_nonneg _ (by decide)) (by rw [hcl]; exact Int.emod_lt_of_pos _ (by decide))), ?_⟩
          exact fin_k [0, 1, 2, 3] rfl k
        · have hat4 : (wsOf cs nk parts).getD a 0 = reck o w1 0 % 65536 := by
            rw [hat3]; unfold partW; rw [if_neg hon.1, if_neg hon.2, if_neg hld]; rfl
          rw [hat4] at k
          walk_at "go"
          refine ⟨o, _, _, rfl, rfl, hw1, ⟨by decide, by decide⟩, (by decide : ∀ o ∈ ops1, o ≠ "load" → o ∈ (["neg", "not", "add", "sub", "mul", "and", "or", "xor"] : List Str)) o q hld, fun r hr2 => ?_⟩
          walk_at "go"
          refine ⟨_, _, _, _, rfl, rfl, rfl, (by decide : (0 : Int) < 65536), ?_⟩
          walk_at "go"
          rw [← hr2] at k
          exact fin_k [0, 1, 2, 3] rfl k
      · obtain ⟨x, y, ex⟩ := len_two (hpk.symm.trans e)
        rw [ex] at hat2 ⊢
        obtain ⟨w1, ew1⟩ : ∃ x_, (wsOf cs nk parts).getD x 0 = x_ := ⟨_, rfl⟩
        obtain ⟨w2, ew2⟩ : ∃ x_, (wsOf cs nk parts).getD y 0 = x_ := ⟨_, rfl⟩
        have hw1 := hwx x
        have hw2 := hwx y
        have hat3 : (wsOf cs nk parts).getD a 0 = partW cs (nat_ nk) o n.mark [(wsOf cs nk parts).getD x 0, (wsOf cs nk parts).getD y 0] := hat2
        rw [ew1, ew2] at hat3
        rw [ew1] at hw1
        rw [ew2] at hw2
        simp only [List.map_cons, List.map_nil, List.cons_append, List.nil_append, ew1, ew2]
        have hld : o ≠ "load" := (by decide : ∀ o ∈ ops2, o ≠ "load") o q
        walk_at "go"
        refine wseq (fun hl2 => absurd hl2 hld) (fun _ => ?_)
        have hat4 : (wsOf cs nk parts).getD a 0 = reck o w1 w2 % 65536 := by
          rw [hat3]; unfold partW; rw [if_neg hon.1, if_neg hon.2, if_neg hld]; rfl
        rw [hat4] at k
        walk_at "go"
        refine ⟨o, _, _, rfl, rfl, hw1, hw2, (by decide : ∀ o ∈ ops2, o ∈ (["neg", "not", "add", "sub", "mul", "and", "or", "xor"] : List Str)) o q, fun r hr2 => ?_⟩
        walk_at "go"
        refine ⟨_, _, _, _, rfl, rfl, rfl, (by decide : (0 : Int) < 65536), ?_⟩
        walk_at "go"
        rw [← hr2] at k
        exact fin_k [0, 1, 2, 3] rfl k
    · rintro u us ih acc M ⟨dn, td, dk, tk, ns2, ms2, hps, hks, hl, hu, ha2, hf2, hn3, hm3, rfl⟩
      cases td with
      | nil => cases hu
      | cons x td =>
      cases tk with
      | nil => cases hl
      | cons kx tk =>
      obtain ⟨rfl, rfl⟩ : u = U.d x.enc ∧ us = (td.map Pat.enc).map U.d := by simpa using hu
      unfold fitAll at hf2
      cases e1 : fit (parts ++ [deed]) x kx with
      | none => rw [e1] at hf2; cases hf2
      | some q1 =>
      obtain ⟨n1, m1⟩ := q1
      rw [e1] at hf2
      cases e2 : fitAll (parts ++ [deed]) td tk with
      | none => rw [e2] at hf2; cases hf2
      | some q2 =>
      obtain ⟨n3, m3⟩ := q2
      rw [e2] at hf2
      simp only [Option.some.injEq, Prod.mk.injEq] at hf2
      obtain ⟨rfl, rfl⟩ := hf2
      obtain ⟨x1, x2, x3⟩ := all_mem (ps := ps) (p := x) (by rw [hps]; simp)
      have hgx := (goods_iff ps).mp ho2 x (by rw [hps]; simp)
      rw [List.length_append] at hn3 hm3
      have eN : needW cs nk parts (n1 ++ n3) ++ r1 = needW cs nk parts n1 ++ (needW cs nk parts n3 ++ r1) := by unfold needW; rw [List.map_append, List.append_assoc]
      have eNl : (needW cs nk parts n3).length = n3.length := by unfold needW; rw [List.length_map]
      rw [eN, List.append_assoc]
      refine ⟨trivial, ?_⟩
      walk_at "go"
      refine ask_pword (parts := parts) (deed := deed) (a := kx) (ns := n1) (ms := m1) (r1 := needW cs nk parts n3 ++ r1) (r2 := m3 ++ r2) ok hp hde hpl e1 (hklt kx (by rw [hks]; simp)) hgx (by omega) (by rw [List.length_append, eNl]; omega) (by rw [List.length_append]; omega) ?_
      have hkl2 : dk.length + (tk.length + 1) = n.kids.length := by rw [hks]; simp
      refine ⟨by rw [ha2, List.length_map, List.length_map]; omega, ?_⟩
      exact ih _ _ ⟨dn ++ [x], td, dk ++ [kx], tk, n3, m3, by rw [hps]; simp, by rw [hks]; simp, by simpa using hl, rfl, by rw [ha2, List.map_append, List.map_append]; rfl, e2, by omega, by omega, rfl⟩
  | var =>
    obtain ⟨q1, rfl, rfl⟩ := leaf_inv hna (by unfold fit at hf; exact hf)
    have q2 : n.op = "var" := by simpa [isFit] using q1
    obtain ⟨s, hs⟩ := var_mark hgn q2
    have hm0 : marks0 n = [.str s] := by unfold marks0; rw [hs]
    rw [hm0]
    rw [q2, hs] at hat2
    have hat3 : (wsOf cs nk parts).getD a 0 = nat_ nk s := hat2
    rw [hat3] at k
    walk_at "go"
    refine ⟨.inl ⟨_, rfl⟩, ?_⟩
    walk_at "go"
    refine ⟨1, _, 0, 0, .str s, rfl, rfl, rfl, ⟨by decide, by decide⟩, pop0_ok, rfl, ?_⟩
    walk_at "go"
    refine ⟨fun d hd => ?_, fun hn2 => ?_⟩
    · rcases nums_val ok.tab.1 s with e | ⟨v, e, hv⟩
      · rw [e] at hd; cases hd
      · have e2 : nat_ nk s = v := by unfold nat_; rw [e]
        rw [e] at hd; cases hd
        rw [e2] at k
        exact fin_k [0, 1, 2, 3] rfl k
    · have e2 : nat_ nk s = 0 := by unfold nat_; rw [hn2]
      rw [e2] at k
      exact fin_k [0, 1, 2, 3] rfl k
  | _ =>
    obtain ⟨q1, rfl, rfl⟩ := leaf_inv hna (by unfold fit at hf; exact hf)
    have q2 : n.op = "num" := by simp [isFit] at q1; first | exact q1 | exact q1.1
    obtain ⟨w, hs, hw⟩ := num_mark hgn q2
    have hm0 : marks0 n = [.int w] := by unfold marks0; rw [hs]
    rw [hm0]
    rw [q2, hs] at hat2
    have hat3 : (wsOf cs nk parts).getD a 0 = w := hat2
    rw [hat3] at k
    walk_at "go"
    refine ⟨.inl ⟨_, rfl⟩, ?_⟩
    walk_at "go"
    refine ⟨1, _, 0, 0, .int w, rfl, rfl, rfl, ⟨by decide, by decide⟩, pop0_ok, rfl, ?_⟩
    exact fin_k [0, 1, 2, 3] rfl k
/-! ### deed_right -/
abbrev s_deed_right : Stmt := top 42
theorem sc_deed_right : FnScope ["_law_web_here", "_law_state_here", "_law_pattern_here", "_law_needs", "_law_marks", "_law_cells", "_law_names", "_law_due", "_law_title", "_law_some", "_law_twin", "_law_one"] ["_law_web_here", "_law_state_here", "_law_pattern_here", "_law_needs", "_law_marks", "_law_cells", "_law_names"] (defScope s_deed_right) := ⟨rfl, rfl, rfl, by decide +kernel, rfl, by decide +kernel, by decide +kernel⟩
theorem ok_deed_right {f : Addr} {fd : FuncData} (F : Fun K "_law_deed_right" "_law_deed_right" s_deed_right f fd) (B : Bln mg) (G : Gln w K mg) {C_State : Addr} (T_State : Tc_State K mg C_State)
    {f_State___eq__ : Addr} {fd_State___eq__ : FuncData} (g_State___eq__ : FnOk P w K mg base CX0 1 f_State___eq__ fd_State___eq__ ["self", "other"] (liftSp (sp_State___eq__ C_State))) (mt_State___eq__ : Meth K C_State "__eq__" f_State___eq__) (k_State___eq__ : PySem.W.keepIn K (.ref f_State___eq__) = true) (b_State___eq__ : Binds K fd_State___eq__ ["self", "other"] [])
    {f_do : Addr} {fd_do : FuncData} (g_do : FnOk P w K mg base CX0 4 f_do fd_do ["web", "state"] (liftSp (sp_do C_State))) (m_do : mg "do" = some (.ref f_do)) (k_do : PySem.W.keepIn K (.ref f_do) = true) (b_do : Binds K fd_do ["web", "state"] [])
    {f_State_give : Addr} {fd_State_give : FuncData} (g_State_give : FnOk P w K mg base CX0 1 f_State_give fd_State_give ["self", "name", "word"] (liftSp (sp_State_give C_State))) (mt_State_give : Meth K C_State "give" f_State_give) (k_State_give : PySem.W.keepIn K (.ref f_State_give) = true) (b_State_give : Binds K fd_State_give ["self", "name", "word"] [])
    {f_pattern_word : Addr} {fd_pattern_word : FuncData} (g_pattern_word : FnOk P w K mg base CX0 10 f_pattern_word fd_pattern_word ["_law_pattern_here", "_law_needs", "_law_marks", "_law_cells", "_law_names"] (liftSp (sp_pattern_word 8))) (m_pattern_word : mg "_law_pattern_word" = some (.ref f_pattern_word)) (k_pattern_word : PySem.W.keepIn K (.ref f_pattern_word) = true) (b_pattern_word : Binds K fd_pattern_word ["_law_pattern_here", "_law_needs", "_law_marks", "_law_cells", "_law_names"] [])
    {f_State_put : Addr} {fd_State_put : FuncData} (g_State_put : FnOk P w K mg base CX0 1 f_State_put fd_State_put ["self", "at", "word"] (liftSp (sp_State_put C_State))) (mt_State_put : Meth K C_State "put" f_State_put) (k_State_put : PySem.W.keepIn K (.ref f_State_put) = true) (b_State_put : Binds K fd_State_put ["self", "at", "word"] [])
    : FnOk P w K mg base CX0 11 f fd ["_law_web_here", "_law_state_here", "_law_pattern_here", "_law_needs", "_law_marks", "_law_cells", "_law_names"] (liftSp (sp_deed_right C_State)) := by
  refine F.ok sc_deed_right (lift_len (by rintro us M Q h; obtain ⟨_, _, _, _, _, _, _, _, _, rfl, _⟩ := h; rfl)) (fun cdv A outer s H vs Q E hr h => ?_)
  refine def_ok ((ls_seq (ls_if (lt_B (le_isiC (K := K) .str (le_var (i := 2)))) (ls_ret (le_and (le_op (lr_eq (K := K)) (le_bm (K := K) (ty_list (K := K)) lm_popAt (le_var (i := 3)) (la_cons le_int la_nil)) le_int) (le_and (le_op (lr_eq (K := K)) (le_var (i := 3)) (le_lst la_nil)) (le_op (lr_eq (K := K)) (le_var (i := 4)) (le_lst la_nil))))) ls_next)
      (ls_cut (ls_asg (le_callN (is := [0, 1, 2]) (dv := []) (fun _ => .nil) (la_cons (le_var (i := 0)) (la_cons (le_var (i := 1)) la_nil))) (lg_name (i := 7)))
      (ls_cut (ls_asg (le_if (lt_test (le_op (lr_eq (K := K)) (le_op (lr_ix (K := K)) (le_var (i := 2)) le_int) le_str)) (le_bm (K := K) (ty_list (K := K)) lm_popAt (le_var (i := 4)) (la_cons le_int la_nil)) le_str) (lg_name (i := 8)))
      (ls_cut (ls_asg (le_lc (li_tup (K := K) (le_sl (K := K) (le_var (i := 2)) (lo_some le_int) lo_none)) (lgv_name (i := 11) (by decide)) lt_yes (le_callC (is := [3, 4, 5, 6]) (dv := []) (fun _ => .nil) (la_cons (le_var (i := 11)) (la_cons (le_var (i := 3)) (la_cons (le_var (i := 4)) (la_cons (le_var (i := 5)) (la_cons (le_var (i := 6)) la_nil))))))) (lg_name (i := 9)))
      (ls_cut (ls_asg (le_callN (is := [0, 1, 2]) (dv := []) (fun _ => .nil) (la_cons (le_lst (la_cons (le_tup (la_cons le_str (la_cons le_int (la_cons (le_tup la_nil) la_nil)))) (la_cons (le_tup (la_cons le_str (la_cons le_str (la_cons (le_tup (la_cons le_int la_nil)) la_nil)))) la_nil))) (la_cons (le_var (i := 1)) la_nil))) (lg_name (i := 10)))
      (ls_cut (ls_drop (le_meth (is := [10, 11, 12]) (dv := []) (fun _ => .nil) (le_var (i := 10)) (la_cons le_str (la_cons (le_dget2 (le_var (i := 6)) le_str le_int) la_nil))))
      (ls_seq (ls_if (lt_test (le_op (lr_eq (K := K)) (le_op (lr_ix (K := K)) (le_var (i := 2)) le_int) le_str)) (ls_drop (le_meth (is := [10, 11, 12]) (dv := []) (fun _ => .nil) (le_var (i := 10)) (la_cons (le_var (i := 8)) (la_cons (le_op (lr_ix (K := K)) (le_var (i := 9)) le_int) la_nil)))) (ls_drop (le_meth (is := [10, 11, 12]) (dv := []) (fun _ => .nil) (le_var (i := 10)) (la_cons (le_op lr_mod (le_op (lr_ix (K := K)) (le_var (i := 9)) le_int) le_int) (la_cons (le_op (lr_ix (K := K)) (le_var (i := 9)) le_int) la_nil)))))
      (ls_ret (le_and (le_op (lr_eqOwnN (is := [10,11,12,7,8,9])) (le_var (i := 10)) (le_var (i := 7))) (le_and (le_op (lr_eq (K := K)) (le_var (i := 3)) (le_lst la_nil)) (le_op (lr_eq (K := K)) (le_var (i := 4)) (le_lst la_nil)))))))))))))
    ((pss_cons (ps_if (pt_val (pe_callB (x_isi (K := K) rfl) (by rfl) B.isinstance_ bt_isinstance (pa_cons (pv 2) (pa_cons (pe_bltn (by rfl) B.str_ bt_str (v := .ty "str") rfl) pa_nil)))) (pss_one (ps_ret (pe_and (pe_cmpR (x_eq (K := K) rfl (hu64 hr)) (pe_bm PySem.F.plainAttrs_list PySem.F.slot_list_pop PySem.F.type_list_pop mt_popAt (pv 3) (pa_cons pe_int pa_nil)) pe_int (by first | exact nomark _ | rfl)) (pe_and (pe_cmpR (x_eq (K := K) rfl (hu64 hr)) (pv 3) (pe_lst pa_nil) (by first | exact nomark _ | rfl)) (pe_one (pe_cmpR (x_eq (K := K) rfl (hu64 hr)) (pv 4) (pe_lst pa_nil) (by first | exact nomark _ | rfl))))))) pss_nil)
      (pss_cons (ps_set (i := 7) sc_deed_right.nd rfl (Or.inl rfl) (pe_call g_do (hr.mono (by omega)) (by rfl) m_do k_do b_do .nil pass0 (pa_cons (pv 0) (pa_cons (pv 1) pa_nil))))
      (pss_cons (ps_set (i := 8) sc_deed_right.nd rfl (Or.inl rfl) (pe_ifExp (pt_cmpR (x_eq (K := K) rfl (hu64 hr)) (pe_ix (x_ix (K := K) rfl) (pv 2) pe_int (fun _ _ => rfl)) pe_str (by first | exact nomark _ | rfl)) (pe_bm PySem.F.plainAttrs_list PySem.F.slot_list_pop PySem.F.type_list_pop mt_popAt (pv 4) (pa_cons pe_int pa_nil)) pe_str))
      (pss_cons (ps_setLc (i := 9) (own := [("_law_one", 11)]) rfl sc_deed_right.nd rfl rfl (sw_true rfl rfl rfl (by decide +kernel)) (pi_tup (pe_slice (x_sl (K := K) rfl) (pv 2) (po_some pe_int) po_none)) (blkOk_by (N := ["_law_web_here", "_law_state_here", "_law_pattern_here", "_law_needs", "_law_marks", "_law_cells", "_law_names", "_law_due", "_law_title", "_law_some", "_law_twin", "_law_one"]) (sc := defScope s_deed_right) (by decide +kernel)) (fun _ _ _ _ _ => (pg_name (i := 11) sc_deed_right.nd rfl (Or.inl rfl))) (fun _ _ _ _ _ => pts_nil) (fun _ _ _ _ _ => (pe_call g_pattern_word (hr.mono (by omega)) (by rfl) m_pattern_word k_pattern_word b_pattern_word .nil pass0 (pa_cons (pv 11) (pa_cons (pv 3) (pa_cons (pv 4) (pa_cons (pv 5) (pa_cons (pv 6) pa_nil))))))))
      (pss_cons (ps_set (i := 10) sc_deed_right.nd rfl (Or.inl rfl) (pe_call g_do (hr.mono (by omega)) (by rfl) m_do k_do b_do .nil pass0 (pa_cons (pe_lst (pa_cons (pe_tup (pa_cons pe_str (pa_cons pe_int (pa_cons (pe_tup pa_nil) pa_nil)))) (pa_cons (pe_tup (pa_cons pe_str (pa_cons pe_str (pa_cons (pe_tup (pa_cons pe_int pa_nil)) pa_nil)))) pa_nil))) (pa_cons (pv 1) pa_nil))))
      (pss_cons (ps_expr (pe_meth (pv 10) T_State.cl mt_State_give g_State_give (hr.mono (by omega)) b_State_give .nil pass0 (pa_cons pe_str (pa_cons (pe_dget2 (hu_of hr) (pv 6) pe_str pe_int ⟨by rfl, by rfl, by rfl, by rfl⟩) pa_nil))))
      (pss_cons (ps_if (pt_cmpR (x_eq (K := K) rfl (hu64 hr)) (pe_ix (x_ix (K := K) rfl) (pv 2) pe_int (fun _ _ => rfl)) pe_str (by first | exact nomark _ | rfl)) (pss_one (ps_expr (pe_meth (pv 10) T_State.cl mt_State_give g_State_give (hr.mono (by omega)) b_State_give .nil pass0 (pa_cons (pv 8) (pa_cons (pe_ix (x_ix (K := K) rfl) (pv 9) pe_int (fun _ _ => rfl)) pa_nil))))) (pss_one (ps_expr (pe_meth (pv 10) T_State.cl mt_State_put g_State_put (hr.mono (by omega)) b_State_put .nil pass0 (pa_cons (pe_op op_mod (pe_ix (x_ix (K := K) rfl) (pv 9) pe_int (fun _ _ => rfl)) pe_int) (pa_cons (pe_ix (x_ix (K := K) rfl) (pv 9) pe_int (fun _ _ => rfl)) pa_nil))))))
      (pss_one (ps_ret (pe_and (pe_cmpR (op_eqOwn g_State___eq__ (hr.mono (by omega)) mt_State___eq__.at_ mt_State___eq__.fn b_State___eq__ pass0) (pv 10) (pv 7) (by first | exact nomark _ | rfl)) (pe_and (pe_cmpR (x_eq (K := K) rfl (hu64 hr)) (pv 3) (pe_lst pa_nil) (by first | exact nomark _ | rfl)) (pe_one (pe_cmpR (x_eq (K := K) rfl (hu64 hr)) (pv 4) (pe_lst pa_nil) (by first | exact nomark _ | rfl)))))))))))))))
    h (fun us M Qu hd => ?_)
  obtain ⟨once, parts, deed, cs, kvs, nk, p, ns, ms, rfl, rfl, ht, hw, p1, p2, hf, hg, hdp, hn, hm, k⟩ := hd
  have hsl : 1000000 ≤ sizeLine := by decide
  have hnd : (parts ++ [deed])[parts.length]? = some deed := by rw [List.getElem?_append_right (Nat.le_refl _), Nat.sub_self]; rfl
  skip
  have hdr := webS_of hw (by omega)
  have efun : nat_ nk = nat_ kvs := funext fun s => (ht.same s).symm
  have ok1 := ok_run_of parts 0 (fun i n e => by rw [Nat.zero_add]; exact hw.part i n e)
  have hwl : (wsOf cs nk parts).length = parts.length := by
    obtain ⟨vs, e1, e2⟩ := runW_ext cs (nat_ nk) (parts.map Nd.tup) []
    unfold wsOf
    rw [e1, List.nil_append, e2, List.length_map]
  have hww : ∀ w ∈ wsOf cs nk parts, wordI w := runW_word ht.b.words (nat_word ht.b.tab.1) _ _ ok1 (fun w hw => (nomatch hw))
  have hwx := fun i => getD_word hww i
  cases p with
  | kind kd =>
    simp only [fit, Option.some.injEq, Prod.mk.injEq] at hf
    obtain ⟨rfl, rfl⟩ := hf
    have e0 : needW cs nk parts [(parts.length, kd)] = [0] := by
      show [(wsOf cs nk parts).getD parts.length 0] = [0]
      rw [List.getD_eq_getElem?_getD, List.getElem?_eq_none (by omega)]; rfl
    rw [e0]
    walk_at "go"
    refine ⟨.inl ⟨_, rfl⟩, ?_⟩
    walk_at "go"
    refine ⟨3, _, 0, 0, .int 0, rfl, rfl, rfl, ⟨by decide, by decide⟩, pop0_ok, rfl, ?_⟩
    walk_at "go"
    refine ⟨_, _, _, _, rfl, rfl, rfl, .inr ⟨by decide, by decide⟩, ?_⟩
    refine ⟨true, rfl, ?_⟩
    walk_at "go"
    refine ⟨_, _, _, _, rfl, rfl, rfl, .inr ⟨by decide, by decide⟩, ?_⟩
    exact fin_k [0, 1, 2, 3, 4, 5, 6] rfl k
  | op o ps =>
    have hfa : deed.op = o ∧ ∃ n2 m2, fitAll (parts ++ [deed]) ps deed.kids = some (n2, m2) ∧ ns = n2 ∧ ms = marks0 deed ++ m2 := by
      unfold fit at hf
      rw [hnd] at hf
      simp only at hf
      split at hf
      · rename_i e
        refine ⟨e, ?_⟩
        split at hf
        · cases hf
        · rename_i n2 m2 e2
          simp only [Option.some.injEq, Prod.mk.injEq] at hf
          exact ⟨n2, m2, e2, hf.1.symm, hf.2.symm⟩
      · cases hf
    obtain ⟨hop, n2, m2, hfa, en2, em2⟩ := hfa
    subst en2
    subst em2
    have hdp2 : Pat.depths ps ≤ 8 := by simp only [Pat.depth] at hdp; omega
    have hpk : ps.length = deed.kids.length := by rw [deed_ar hw.dd, hop]; exact (top_ar hg).1
    have hklt : ∀ x ∈ deed.kids, x < parts.length := (by
      rcases hw.dd with ⟨_, _, a, b, e, h1, h2⟩ | ⟨_, _, a, e, h1⟩ <;> rw [e] <;> intro k hk <;> simp at hk <;> omega)
    have hk2 : deed.kids.length ≤ 2 := by
      rcases hw.dd with ⟨_, _, a, b, e, h1, h2⟩ | ⟨_, _, a, e, h1⟩ <;> rw [e] <;> simp
    have ho2 : Pat.goods ps := hg.2
    have hwo : wordsOf cs kvs (parts.map Nd.tup) deed.tup = someW (wsOf cs nk parts) deed.kids := by unfold wordsOf wsOf; rw [efun]; rfl
    obtain ⟨cs2, e1⟩ : ∃ x, deedC deed.op (someW (wsOf cs nk parts) deed.kids) cs = x := ⟨_, rfl⟩
    obtain ⟨kv2, e2⟩ : ∃ x, deedK deed.op deed.mark (someW (wsOf cs nk parts) deed.kids) kvs = x := ⟨_, rfl⟩
    have e1' : deedC deed.tup.1 (wordsOf cs kvs (parts.map Nd.tup) deed.tup) cs = cs2 := by rw [hwo]; exact e1
    have e2' : deedK deed.tup.1 deed.tup.2.1 (wordsOf cs kvs (parts.map Nd.tup) deed.tup) kvs = kv2 := by rw [hwo]; exact e2
    rw [Pat.enc]
    skip
    skip
    skip
    walk_at "go"
    refine ⟨(fun ρ M => ∃  (x_title x_some x_twin x_one : Option U), ρ = [some (.d (encWeb (parts ++ [deed]))), some (.p 0), some (.d ((.tuple (.str o :: Pat.encs ps)))), some (.p 3), some (.p 4), some (.p 5), some (.p 6), some (.p 7), x_title, x_some, x_twin, x_one] ∧ M = [stI C_State, .lst (intL cs), .dic kvs, .lst (intL (needW cs nk parts ns)), .lst (marks0 deed ++ m2), .lst (intL cs), .dic nk, stJ C_State 7, .lst (intL cs2), .dic kv2]), ?_, ?_⟩
    · walk_at "go"
      refine ⟨_, _, cs, kvs, by rw [enc_web_tup]; rfl, rfl, ht.a, hdr, ?_⟩
      rw [e1', e2']
      walk_at "go"
      exact ⟨_, _, _, _, rfl, rfl⟩
    rintro ρ M ⟨x_title, x_some, x_twin, x_one, rfl, rfl⟩
    skip
    refine ⟨(fun ρ M => ∃ (tt : Str) (x_some x_twin x_one : Option U), ((o = "put" ∧ tt = "") ∨ (o = "set" ∧ deed.mark = .str tt ∧ nameOk tt)) ∧ ρ = [some (.d (encWeb (parts ++ [deed]))), some (.p 0), some (.d ((.tuple (.str o :: Pat.encs ps)))), some (.p 3), some (.p 4), some (.p 5), some (.p 6), some (.p 7), some (.d (.str tt)), x_some, x_twin, x_one] ∧ M = [stI C_State, .lst (intL cs), .dic kvs, .lst (intL (needW cs nk parts ns)), .lst m2, .lst (intL cs), .dic nk, stJ C_State 7, .lst (intL cs2), .dic kv2]), ?_, ?_⟩
    · walk_at "go"
      refine wseq (fun eo => ?_) (fun eo => ?_)
      · rcases deed_mark0 hw.dd with ⟨q1, _⟩ | ⟨_, s, q2, q3, q4⟩
        · exact absurd (q1.symm.trans (hop.trans eo)) (by decide)
        rw [q4]
        walk_at "go"
        refine ⟨.inl ⟨_, rfl⟩, ?_⟩
        walk_at "go"
        refine ⟨4, _, 0, 0, .str s, rfl, rfl, rfl, ⟨by decide, by decide⟩, pop0_ok, rfl, ?_⟩
        exact ⟨s, _, _, _, .inr ⟨eo, q2, q3⟩, rfl, rfl⟩
      · rcases deed_mark0 hw.dd with ⟨q1, q2⟩ | ⟨q1, _⟩
        · rw [q2]
          walk_at "go"
          exact ⟨"", _, _, _, .inl ⟨hop.symm.trans q1, rfl⟩, rfl, rfl⟩
        · exact absurd (hop.symm.trans q1) eo
    rintro ρ M ⟨tt, x_some, x_twin, x_one, hb, rfl, rfl⟩
    skip
    rw [List.length_append] at hm
    refine ⟨(fun ρ M => ∃  (x_twin x_one : Option U), ρ = [some (.d (encWeb (parts ++ [deed]))), some (.p 0), some (.d ((.tuple (.str o :: Pat.encs ps)))), some (.p 3), some (.p 4), some (.p 5), some (.p 6), some (.p 7), some (.d (.str tt)), some (.d (.list (intL (someW (wsOf cs nk parts) deed.kids)))), x_twin, x_one] ∧ M = [stI C_State, .lst (intL cs), .dic kvs, .lst [], .lst [], .lst (intL cs), .dic nk, stJ C_State 7, .lst (intL cs2), .dic kv2]), ?_, ?_⟩
    · walk_at "go"
      rw [cut1]
      refine wLcGo_rec (fun us acc M => ∃ (dn td : List Pat) (dk tk : List Nat) (ns2 : List (Nat × Str)) (ms2 : List PyData), (ps = dn ++ td) ∧ (deed.kids = dk ++ tk) ∧ (td.length = tk.length) ∧ (us = (td.map Pat.enc).map U.d) ∧ (acc = (dk.map fun k => PyData.int ((wsOf cs nk parts).getD k 0)).map U.d) ∧ (fitAll (parts ++ [deed]) td tk = some (ns2, ms2)) ∧ (ns2.length ≤ 1000) ∧ (ms2.length ≤ 1000) ∧ M = [stI C_State, .lst (intL cs), .dic kvs, .lst (intL (needW cs nk parts ns2)), .lst ms2, .lst (intL cs), .dic nk, stJ C_State 7, .lst (intL cs2), .dic kv2]) ?_ ?_ _ _ _ ⟨[], ps, [], deed.kids, ns, m2, rfl, rfl, hpk, by rw [encs_map], rfl, hfa, hn, by omega, rfl⟩
      · rintro acc M ⟨dn, td, dk, tk, ns2, ms2, hps, hks, hl, hu, ha2, hf2, hn3, hm3, rfl⟩
        cases td with
        | cons a b => cases hu
        | nil =>
        have htk : tk = [] := List.eq_nil_of_length_eq_zero (by simpa using hl.symm)
        subst htk
        simp only [fitAll, Option.some.injEq, Prod.mk.injEq] at hf2
        obtain ⟨rfl, rfl⟩ := hf2
        rw [List.append_nil] at hks
        subst hks
        refine ⟨trivial, _, by rw [ha2]; exact dats_map _, ?_⟩
        rw [some_nat]
        exact ⟨_, _, rfl, rfl⟩
      · rintro u us ih acc M ⟨dn, td, dk, tk, ns2, ms2, hps, hks, hl, hu, ha2, hf2, hn3, hm3, rfl⟩
        cases td with
        | nil => cases hu
        | cons x td =>
        cases tk with
        | nil => cases hl
        | cons kx tk =>
        obtain ⟨rfl, rfl⟩ : u = U.d x.enc ∧ us = (td.map Pat.enc).map U.d := by simpa using hu
        unfold fitAll at hf2
        cases f1 : fit (parts ++ [deed]) x kx with
        | none => rw [f1] at hf2; cases hf2
        | some q1 =>
        obtain ⟨n1, m1⟩ := q1
        rw [f1] at hf2
        cases f2 : fitAll (parts ++ [deed]) td tk with
        | none => rw [f2] at hf2; cases hf2
        | some q2 =>
        obtain ⟨n3, m3⟩ := q2
        rw [f2] at hf2
        simp only [Option.some.injEq, Prod.mk.injEq] at hf2
        obtain ⟨rfl, rfl⟩ := hf2
        obtain ⟨x1, x2, x3⟩ := all_mem (ps := ps) (p := x) (by rw [hps]; simp)
        have hgx := (goods_iff ps).mp ho2 x (by rw [hps]; simp)
        rw [List.length_append] at hn3 hm3
        have eN : needW cs nk parts (n1 ++ n3) = needW cs nk parts n1 ++ needW cs nk parts n3 := by unfold needW; rw [List.map_append]
        have eNl : (needW cs nk parts n3).length = n3.length := by unfold needW; rw [List.length_map]
        rw [eN]
        refine ⟨trivial, ?_⟩
        walk_at "go"
        refine ask_pword (parts := parts) (deed := deed) (a := kx) (ns := n1) (ms := m1) (r1 := needW cs nk parts n3) (r2 := m3) ht.b hw.part hw.dd (by omega) f1 (hklt kx (by rw [hks]; simp)) hgx (by omega) (by rw [eNl]; omega) (by omega) ?_
        have hkl2 : dk.length + (tk.length + 1) = deed.kids.length := by rw [hks]; simp
        refine ⟨by rw [ha2, List.length_map, List.length_map]; omega, ?_⟩
        exact ih _ _ ⟨dn ++ [x], td, dk ++ [kx], tk, n3, m3, by rw [hps]; simp, by rw [hks]; simp, by simpa using hl, rfl, by rw [ha2, List.map_append, List.map_append]; rfl, f2, by omega, by omega, rfl⟩
    rintro ρ M ⟨x_twin, x_one, rfl, rfl⟩
    skip
    refine ⟨(fun ρ M => ∃  (x_one : Option U), ρ = [some (.d (encWeb (parts ++ [deed]))), some (.p 0), some (.d ((.tuple (.str o :: Pat.encs ps)))), some (.p 3), some (.p 4), some (.p 5), some (.p 6), some (.p 7), some (.d (.str tt)), some (.d (.list (intL (someW (wsOf cs nk parts) deed.kids)))), some (.p 10), x_one] ∧ M = [stI C_State, .lst (intL cs), .dic kvs, .lst [], .lst [], .lst (intL cs), .dic nk, stJ C_State 7, .lst (intL cs2), .dic kv2, stJ C_State 10, .lst (intL cs), .dic (giveD kvs "unused" 0)]), ?_, ?_⟩
    · walk_at "go"
      refine ⟨[("num", .int 0, [])], ("set", .str "unused", [0]), cs, kvs, rfl, rfl, ht.a, unused_ok, ?_⟩
      rw [unused_c, unused_k]
      walk_at "go"
      first | exact rfl | exact ⟨_, rfl, rfl⟩
    rintro ρ M ⟨x_one, rfl, rfl⟩
    have hsm := ht.small.1
    have hl5 := give_len kvs "unused" 0
    refine ⟨(fun ρ M => ∃  (x_one : Option U), ρ = [some (.d (encWeb (parts ++ [deed]))), some (.p 0), some (.d ((.tuple (.str o :: Pat.encs ps)))), some (.p 3), some (.p 4), some (.p 5), some (.p 6), some (.p 7), some (.d (.str tt)), some (.d (.list (intL (someW (wsOf cs nk parts) deed.kids)))), some (.p 10), x_one] ∧ M = [stI C_State, .lst (intL cs), .dic kvs, .lst [], .lst [], .lst (intL cs), .dic nk, stJ C_State 7, .lst (intL cs2), .dic kv2, stJ C_State 10, .lst (intL cs), .dic (giveD (giveD kvs "unused" 0) "unused" (nat_ nk "unused"))]), ?_, ?_⟩
    · walk_at "go"
      refine ⟨fun d hd => ?_, fun hn2 => ?_⟩
      · rcases nums_val ht.b.tab.1 "unused" with e | ⟨v, e, hv⟩
        · rw [e] at hd; cases hd
        · have e3 : nat_ nk "unused" = v := by unfold nat_; rw [e]
          rw [e] at hd; cases hd
          rw [e3]
          walk_at "go"
          refine ⟨cs, giveD kvs "unused" 0, "unused", v, rfl, rfl, by omega, ?_⟩
          first | exact rfl | exact ⟨_, rfl, rfl⟩
      · have e3 : nat_ nk "unused" = 0 := by unfold nat_; rw [hn2]
        rw [e3]
        walk_at "go"
        refine ⟨cs, giveD kvs "unused" 0, "unused", 0, rfl, rfl, by omega, ?_⟩
        first | exact rfl | exact ⟨_, rfl, rfl⟩
    rintro ρ M ⟨x_one, rfl, rfl⟩
    have hun : nameOk "unused" := ⟨by decide +kernel, by decide +kernel, by decide +kernel⟩
    obtain ⟨kv4, e4⟩ : ∃ x, giveD (giveD kvs "unused" 0) "unused" (nat_ nk "unused") = x := ⟨_, rfl⟩
    have t2 : Tab kv4 := by rw [← e4]; exact tab_give (tab_give ht.a.tab ⟨by decide, by decide⟩ hun) (nat_word ht.b.tab.1 _) hun
    have z2 : NZ kv4 := by rw [← e4]; exact nz_give (nz_give ht.nz _ _) _ _
    have s2 : ∀ s, nat_ kv4 s = nat_ kvs s := fun s => by
      rw [← e4, nat_give, nat_give]
      split
      · rename_i e; rw [← e, ht.same]
      · rfl
    have l4 : kv4.length ≤ 30 := by
      have := give_len (giveD kvs "unused" 0) "unused" (nat_ nk "unused")
      rw [← e4]; omega
    rw [e4]
    have hcl := ht.a.len
    rcases hb with ⟨eo, et⟩ | ⟨eo, q2, q3⟩
    · subst eo
      obtain ⟨x, y, ex⟩ : ∃ x y, deed.kids = [x, y] := by
        rcases hw.dd with ⟨_, _, a, b, e, _⟩ | ⟨q, _⟩
        · exact ⟨a, b, e⟩
        · exact absurd (hop.symm.trans q) (by decide)
      obtain ⟨w1, ew1⟩ : ∃ x_, (wsOf cs nk parts).getD x 0 = x_ := ⟨_, rfl⟩
      obtain ⟨w2, ew2⟩ : ∃ x_, (wsOf cs nk parts).getD y 0 = x_ := ⟨_, rfl⟩
      have eso : someW (wsOf cs nk parts) deed.kids = [w1, w2] := by rw [ex, ← ew1, ← ew2]; rfl
      rw [hop, eso] at e1 e2
      have e1b : cs.set (w1 % 64).toNat w2 = cs2 := e1
      have e2b : kvs = kv2 := e2
      rw [eso, ← e1b, ← e2b]
      have hm64 := Int.emod_lt_of_pos w1 (show (0 : Int) < 64 by decide)
      have hm0 := Int.emod_nonneg w1 (show (64 : Int) ≠ 0 by decide)
      walk_at "go"
      refine ⟨_, _, _, _, rfl, rfl, rfl, (by decide : (0 : Int) < 64), ?_⟩
      walk_at "go"
      refine ⟨cs, kv4, w1 % 64, w2, rfl, rfl, hm0, by omega, ?_⟩
      walk_at "go"
      refine ⟨_, _, _, _, rfl, rfl, rfl, rfl, ?_⟩
      walk_at "go"
      refine ⟨cs.set (w1 % 64).toNat w2, cs.set (w1 % 64).toNat w2, kv4, kvs, rfl, rfl, by rw [List.length_set, hcl]; decide, by rw [List.length_set, hcl]; decide, t2.1, .inr ⟨rfl, same_t t2 ht.a.tab z2 ht.nz s2, ?_⟩⟩
      walk_at "go"
      refine ⟨_, _, _, _, rfl, rfl, rfl, .inr ⟨rfl, by decide⟩, ?_⟩
      refine ⟨true, rfl, ?_⟩
      walk_at "go"
      refine ⟨_, _, _, _, rfl, rfl, rfl, .inr ⟨rfl, by decide⟩, ?_⟩
      exact fin_k [0, 1, 2, 3, 4, 5, 6] rfl k
    · subst eo
      obtain ⟨x, ex⟩ : ∃ x, deed.kids = [x] := by
        rcases hw.dd with ⟨q, _⟩ | ⟨_, _, a, e, _⟩
        · exact absurd (hop.symm.trans q) (by decide)
        · exact ⟨a, e⟩
      obtain ⟨w1, ew1⟩ : ∃ x_, (wsOf cs nk parts).getD x 0 = x_ := ⟨_, rfl⟩
      have hw1 : wordI w1 := by rw [← ew1]; exact hwx x
      have eso : someW (wsOf cs nk parts) deed.kids = [w1] := by rw [ex, ← ew1]; rfl
      rw [hop, eso] at e1 e2
      rw [q2] at e2
      have e1b : cs = cs2 := e1
      have e2b : giveD kvs tt w1 = kv2 := e2
      rw [eso, ← e1b, ← e2b]
      have t3 : Tab (giveD kv4 tt w1) := tab_give t2 hw1 q3
      have t4 : Tab (giveD kvs tt w1) := tab_give ht.a.tab hw1 q3
      have s3 : ∀ s, nat_ (giveD kv4 tt w1) s = nat_ (giveD kvs tt w1) s := fun s => by rw [nat_give, nat_give, s2]
      walk_at "go"
      refine ⟨cs, kv4, tt, w1, rfl, rfl, by omega, ?_⟩
      walk_at "go"
      refine ⟨_, _, _, _, rfl, rfl, rfl, rfl, ?_⟩
      walk_at "go"
      refine ⟨cs, cs, giveD kv4 tt w1, giveD kvs tt w1, rfl, rfl, by rw [hcl]; decide, by rw [hcl]; decide, t3.1, .inr ⟨rfl, same_t t3 t4 (nz_give z2 _ _) (nz_give ht.nz _ _) s3, ?_⟩⟩
      walk_at "go"
      refine ⟨_, _, _, _, rfl, rfl, rfl, .inr ⟨rfl, by decide⟩, ?_⟩
      refine ⟨true, rfl, ?_⟩
      walk_at "go"
      refine ⟨_, _, _, _, rfl, rfl, rfl, .inr ⟨rfl, by decide⟩, ?_⟩
      exact fin_k [0, 1, 2, 3, 4, 5, 6] rfl k
  | _ =>
    exfalso
    obtain ⟨q1, _⟩ := leaf_inv hnd (by unfold fit at hf; exact hf)
    have q3 : deed.op = "num" ∨ deed.op = "var" := by
      simp [isFit] at q1
      first
        | exact .inl q1
        | exact .inl q1.1
        | exact .inr q1
    rcases hw.dd with ⟨q2, _⟩ | ⟨q2, _⟩ <;> rw [q2] at q3 <;> exact absurd q3 (by decide)
/-! ### law -/
abbrev s_law : Stmt := top 44
theorem sc_law : FnScope ["_law_script", "_law_k", "_law_bag_here", "_law_other", "_law_state_here", "_law_cells", "_law_names", "_law_web_here", "_law_goal", "_law_rules", "_law_words", "_law_patterns", "_law_at", "_law_beneath_here", "_law_name_here", "_law_needs", "_law_marks", "_law_some", "_law_left", "_law_rule_here", "_law_there", "_law_kind_here"] ["_law_script"] (defScope s_law) := ⟨rfl, rfl, rfl, by decide +kernel, rfl, by decide +kernel, by decide +kernel⟩
theorem ok_law {f : Addr} {fd : FuncData} (F : Fun K "law" "law" s_law f fd) (B : Bln mg) (G : Gln w K mg) {C_State : Addr} (T_State : Tc_State K mg C_State)
    {f_state : Addr} {fd_state : FuncData} (g_state : FnOk P w K mg base CX0 3 f_state fd_state ["_law_bag_here"] (liftSp (sp_state C_State))) (m_state : mg "_law_state" = some (.ref f_state)) (k_state : PySem.W.keepIn K (.ref f_state) = true) (b_state : Binds K fd_state ["_law_bag_here"] [])
    {f_web : Addr} {fd_web : FuncData} (g_web : FnOk P w K mg base CX0 4 f_web fd_web ["_law_bag_here", "_law_many", "_law_once"] (liftSp sp_web)) (m_web : mg "_law_web" = some (.ref f_web)) (k_web : PySem.W.keepIn K (.ref f_web) = true) (b_web : Binds K fd_web ["_law_bag_here", "_law_many", "_law_once"] [])
    {f_fitting : Addr} {fd_fitting : FuncData} (g_fitting : FnOk P w K mg base CX0 11 f_fitting fd_fitting ["_law_bag_here", "_law_web_here", "_law_many"] (liftSp sp_fitting)) (m_fitting : mg "_law_fitting" = some (.ref f_fitting)) (k_fitting : PySem.W.keepIn K (.ref f_fitting) = true) (b_fitting : Binds K fd_fitting ["_law_bag_here", "_law_web_here", "_law_many"] [])
    {f_bag : Addr} {fd_bag : FuncData} (g_bag : FnOk P w K mg base CX0 1 f_bag fd_bag ["_law_script", "_law_at"] (liftSp (sp_bag K))) (m_bag : mg "_law_bag" = some (.ref f_bag)) (k_bag : PySem.W.keepIn K (.ref f_bag) = true) (b_bag : Binds K fd_bag ["_law_script", "_law_at"] [])
    {f_beneath : Addr} {fd_beneath : FuncData} (g_beneath : FnOk P w K mg base CX0 1 f_beneath fd_beneath ["_law_web_here", "_law_at"] (liftSp sp_beneath)) (m_beneath : mg "_law_beneath" = some (.ref f_beneath)) (k_beneath : PySem.W.keepIn K (.ref f_beneath) = true) (b_beneath : Binds K fd_beneath ["_law_web_here", "_law_at"] [])
    {f_fits : Addr} {fd_fits : FuncData} (g_fits : FnOk P w K mg base CX0 10 f_fits fd_fits ["machine", "web", "at"] (liftSp sp_fits)) (m_fits : mg "fits" = some (.ref f_fits)) (k_fits : PySem.W.keepIn K (.ref f_fits) = true) (b_fits : Binds K fd_fits ["machine", "web", "at"] [])
    {f_take : Addr} {fd_take : FuncData} (g_take : FnOk P w K mg base CX0 1 f_take fd_take ["_law_bag_here", "_law_many"] (liftSp sp_take)) (m_take : mg "_law_take" = some (.ref f_take)) (k_take : PySem.W.keepIn K (.ref f_take) = true) (b_take : Binds K fd_take ["_law_bag_here", "_law_many"] [])
    {f_worths : Addr} {fd_worths : FuncData} (g_worths : FnOk P w K mg base CX0 2 f_worths fd_worths ["_law_web_here", "_law_cells", "_law_names"] (liftSp sp_worths)) (m_worths : mg "_law_worths" = some (.ref f_worths)) (k_worths : PySem.W.keepIn K (.ref f_worths) = true) (b_worths : Binds K fd_worths ["_law_web_here", "_law_cells", "_law_names"] [])
    {f_deed_right : Addr} {fd_deed_right : FuncData} (g_deed_right : FnOk P w K mg base CX0 11 f_deed_right fd_deed_right ["_law_web_here", "_law_state_here", "_law_pattern_here", "_law_needs", "_law_marks", "_law_cells", "_law_names"] (liftSp (sp_deed_right C_State))) (m_deed_right : mg "_law_deed_right" = some (.ref f_deed_right)) (k_deed_right : PySem.W.keepIn K (.ref f_deed_right) = true) (b_deed_right : Binds K fd_deed_right ["_law_web_here", "_law_state_here", "_law_pattern_here", "_law_needs", "_law_marks", "_law_cells", "_law_names"] [])
    {f_pattern_word : Addr} {fd_pattern_word : FuncData} (g_pattern_word : FnOk P w K mg base CX0 10 f_pattern_word fd_pattern_word ["_law_pattern_here", "_law_needs", "_law_marks", "_law_cells", "_law_names"] (liftSp (sp_pattern_word 8))) (m_pattern_word : mg "_law_pattern_word" = some (.ref f_pattern_word)) (k_pattern_word : PySem.W.keepIn K (.ref f_pattern_word) = true) (b_pattern_word : Binds K fd_pattern_word ["_law_pattern_here", "_law_needs", "_law_marks", "_law_cells", "_law_names"] [])
    : FnOk P w K mg base CX0 12 f fd ["_law_script"] (liftSp (spLaw K)) := by
  refine F.ok sc_law (lift_len (by rintro us M Q h; obtain ⟨ns, rfl, _⟩ := h; rfl)) (fun cdv A outer s H vs Q E hr h => ?_)
  refine def_ok ((ls_seq (ls_for (li_rng1 (la_cons (le_cb lc_max2 (la_cons le_int (la_cons (le_cb lc_min2 (la_cons le_int (la_cons (le_op lr_divW (le_cb (lc_lenS (K := K)) (la_cons (le_var (i := 0)) la_nil)) le_int) la_nil))) la_nil))) la_nil)) (lg_name (i := 1)) (ls_tr (ls_seq (ls_par (i := 2) (j := 3) (la_cons (le_callC (is := []) (dv := []) (fun _ => .nil) (la_cons (le_var (i := 0)) (la_cons (le_op lr_mulA le_int (le_var (i := 1))) la_nil))) (la_cons (le_callC (is := []) (dv := []) (fun _ => .nil) (la_cons (le_var (i := 0)) (la_cons (le_op (lr_add (K := K)) (le_op lr_mulA le_int (le_var (i := 1))) le_int) la_nil))) la_nil)))
      (ls_cut (ls_asg (le_callC (is := [0]) (dv := []) (fun _ => .nil) (la_cons (le_var (i := 2)) la_nil)) (lg_tup (K := K) (n := 3) (lgs_cons (lg_name (i := 4)) (lgs_cons (lg_name (i := 5)) (lgs_cons (lg_name (i := 6)) lgs_nil)))))
      (ls_seq (ls_asg (le_callC (is := [0]) (dv := []) (fun _ => .nil) (la_cons (le_var (i := 2)) (la_cons (le_op (lr_ix (K := K)) (le_tup (la_cons le_int (la_cons le_int (la_cons le_int (la_cons le_int la_nil))))) (le_callC (is := [0]) (dv := []) (fun _ => .nil) (la_cons (le_var (i := 2)) (la_cons le_int la_nil)))) (la_cons (le_op (lr_eq (K := K)) (le_callC (is := [0]) (dv := []) (fun _ => .nil) (la_cons (le_var (i := 2)) (la_cons le_int la_nil))) le_int) la_nil)))) (lg_name (i := 7)))
      (ls_cut (ls_asg (le_callC (is := [1]) (dv := []) (fun _ => .nil) (la_cons (le_var (i := 3)) (la_cons (le_var (i := 7)) (la_cons (le_op (lr_ix (K := K)) (le_tup (la_cons le_int (la_cons le_int (la_cons le_int la_nil)))) (le_callC (is := [1]) (dv := []) (fun _ => .nil) (la_cons (le_var (i := 3)) (la_cons le_int la_nil)))) la_nil)))) (lg_tup (K := K) (n := 2) (lgs_cons (lg_name (i := 8)) (lgs_cons (lg_name (i := 9)) lgs_nil))))
      (ls_cut (ls_asg (le_tupP (la_cons (le_op (lr_add (K := K)) (le_callC (is := [5, 6]) (dv := []) (fun _ => .nil) (la_cons (le_var (i := 7)) (la_cons (le_var (i := 5)) (la_cons (le_var (i := 6)) la_nil)))) (le_lst (la_cons le_int la_nil))) (la_cons (le_cb lc_dictP (la_cons (le_lc (li_list (K := K) (le_var (i := 9))) (lgv_name (i := 19) (by decide)) lt_yes (le_tup (la_cons (le_op (lr_ix (K := K)) (le_var (i := 19)) le_int) (la_cons (le_op (lr_ix (K := K)) (le_var (i := 19)) le_int) la_nil)))) la_nil)) la_nil))) (lg_tup (K := K) (n := 2) (lgs_cons (lg_name (i := 10)) (lgs_cons (lg_name (i := 11)) lgs_nil))))
      (ls_for (li_rng1 (la_cons (le_cb (lc_len (K := K)) (la_cons (le_var (i := 7)) la_nil)) la_nil)) (lg_name (i := 12)) (ls_tr (ls_cut (ls_asg (le_callP (dv := []) (fun _ => .nil) (la_cons (le_var (i := 7)) (la_cons (le_var (i := 12)) la_nil))) (lg_name (i := 13)))
      (ls_for (li_list (K := K) (le_callP (dv := []) (fun _ => .nil) (la_cons (le_tup (la_cons (le_var (i := 8)) (la_cons (le_var (i := 9)) la_nil))) (la_cons (le_var (i := 7)) (la_cons (le_var (i := 12)) la_nil))))) (lg_tup (K := K) (n := 3) (lgs_cons (lg_name (i := 14)) (lgs_cons (lg_name (i := 15)) (lgs_cons (lg_name (i := 16)) lgs_nil)))) (ls_tr (ls_seq (ls_if (lt_not (lt_B (le_cb (lc_all (K := K)) (la_cons (le_lc (li_tup (K := K) (le_var (i := 15))) (lgv_tup (K := K) (n := 2) (lgvs_cons (lgv_name (i := 20) (by decide)) (lgvs_cons (lgv_name (i := 21) (by decide)) lgvs_nil))) lt_yes (le_op (lr_in (K := K)) (le_var (i := 20)) (le_var (i := 13)))) la_nil)))) (ls_ret le_bl) ls_next)
      (ls_cut (ls_par (i := 17) (j := 18) (la_cons (le_lcC (li_tup (K := K) (le_var (i := 15))) (lgv_tup (K := K) (n := 2) (lgvs_cons (lgv_name (i := 20) (by decide)) (lgvs_cons (lgv_name (i := 21) (by decide)) lgvs_nil))) lt_yes (le_op (lr_ix (K := K)) (le_var (i := 10)) (le_var (i := 20)))) (la_cons (le_cb (lc_listOfC (K := K)) (la_cons (le_var (i := 16)) la_nil)) la_nil)))
      (ls_seq (ls_if (lt_test (le_op (lr_eq (K := K)) (le_var (i := 12)) (le_op lr_sub (le_cb (lc_len (K := K)) (la_cons (le_var (i := 7)) la_nil)) le_int))) (ls_if (lt_not (lt_B (le_callC (is := [2, 3, 4, 11, 12, 5, 6]) (dv := []) (fun _ => .nil) (la_cons (le_var (i := 7)) (la_cons (le_var (i := 4)) (la_cons (le_dget (le_var (i := 11)) (le_var (i := 14))) (la_cons (le_var (i := 17)) (la_cons (le_var (i := 18)) (la_cons (le_var (i := 5)) (la_cons (le_var (i := 6)) la_nil)))))))))) (ls_ret le_bl) ls_next) (ls_if (lt_test (le_op (lr_ne (K := K)) (le_callC (is := [11, 12, 5, 6]) (dv := []) (fun _ => .nil) (la_cons (le_dget (le_var (i := 11)) (le_var (i := 14))) (la_cons (le_var (i := 17)) (la_cons (le_var (i := 18)) (la_cons (le_var (i := 5)) (la_cons (le_var (i := 6)) la_nil)))))) (le_op (lr_ix (K := K)) (le_var (i := 10)) (le_var (i := 12))))) (ls_ret le_bl) ls_next))
      (ls_if (lt_test (le_op (lr_ne (K := K)) (le_op (lr_add (K := K)) (le_var (i := 17)) (le_var (i := 18))) (le_lst la_nil))) (ls_ret le_bl) ls_next))))))))))))))))
      (ls_ret le_bl)))
    ((pss_cons (ps_for PassesOwn.never rfl (pi_range1 (by rfl) B.range_ (pa_cons (pe_callB (call_max2 rfl) (by rfl) B.max_ bt_max (pa_cons pe_int (pa_cons (pe_callB (call_min2 rfl) (by rfl) B.min_ bt_min (pa_cons pe_int (pa_cons (pe_op op_fdivW (pe_callB (x_len (K := K) rfl) (by rfl) B.len_ bt_len (pa_cons (pv 0) pa_nil)) pe_int) pa_nil))) pa_nil))) pa_nil)) (pg_name (i := 1) sc_law.nd rfl (Or.inl rfl)) (pss_cons (ps_par (i := 2) (j := 3) rfl sc_law.nd rfl rfl (by decide) rfl rfl (pa_cons (pe_call g_bag (hr.mono (by omega)) (by rfl) m_bag k_bag b_bag .nil pass0 (pa_cons (pv 0) (pa_cons (pe_op op_mulAll pe_int (pv 1)) pa_nil))) (pa_cons (pe_call g_bag (hr.mono (by omega)) (by rfl) m_bag k_bag b_bag .nil pass0 (pa_cons (pv 0) (pa_cons (pe_op (x_add (K := K) rfl) (pe_op op_mulAll pe_int (pv 1)) pe_int) pa_nil))) pa_nil)) rfl)
      (pss_cons (ps_asg (pe_call g_state (hr.mono (by omega)) (by rfl) m_state k_state b_state .nil pass0 (pa_cons (pv 2) pa_nil)) (pg_tup rfl (pgs_cons (pg_name (i := 4) sc_law.nd rfl (Or.inl rfl)) (pgs_cons (pg_name (i := 5) sc_law.nd rfl (Or.inl rfl)) (pgs_cons (pg_name (i := 6) sc_law.nd rfl (Or.inl rfl)) pgs_nil)))))
      (pss_cons (ps_set (i := 7) sc_law.nd rfl (Or.inl rfl) (pe_call g_web (hr.mono (by omega)) (by rfl) m_web k_web b_web .nil pass0 (pa_cons (pv 2) (pa_cons (pe_ix (x_ix (K := K) rfl) (pe_tup (pa_cons pe_int (pa_cons pe_int (pa_cons pe_int (pa_cons pe_int pa_nil))))) (pe_call g_take (hr.mono (by omega)) (by rfl) m_take k_take b_take .nil pass0 (pa_cons (pv 2) (pa_cons pe_int pa_nil))) (fun _ _ => rfl)) (pa_cons (pe_cmpR (x_eq (K := K) rfl (hu64 hr)) (pe_call g_take (hr.mono (by omega)) (by rfl) m_take k_take b_take .nil pass0 (pa_cons (pv 2) (pa_cons pe_int pa_nil))) pe_int (by first | exact nomark _ | rfl)) pa_nil)))))
      (pss_cons (ps_asg (pe_call g_fitting (hr.mono (by omega)) (by rfl) m_fitting k_fitting b_fitting .nil pass0 (pa_cons (pv 3) (pa_cons (pv 7) (pa_cons (pe_ix (x_ix (K := K) rfl) (pe_tup (pa_cons pe_int (pa_cons pe_int (pa_cons pe_int pa_nil)))) (pe_call g_take (hr.mono (by omega)) (by rfl) m_take k_take b_take .nil pass0 (pa_cons (pv 3) (pa_cons pe_int pa_nil))) (fun _ _ => rfl)) pa_nil)))) (pg_tup rfl (pgs_cons (pg_name (i := 8) sc_law.nd rfl (Or.inl rfl)) (pgs_cons (pg_name (i := 9) sc_law.nd rfl (Or.inl rfl)) pgs_nil))))
      (pss_cons (ps_asg (pe_tup (pa_cons (pe_op (x_add (K := K) rfl) (pe_call g_worths (hr.mono (by omega)) (by rfl) m_worths k_worths b_worths .nil pass0 (pa_cons (pv 7) (pa_cons (pv 5) (pa_cons (pv 6) pa_nil)))) (pe_lst (pa_cons pe_int pa_nil))) (pa_cons (pe_callTy (x_dictP (K := K) rfl rfl) (by rfl) B.dict_ bt_dict (pa_cons (pe_lc (own := [("_law_rule_here", 19)]) rfl sc_law.nd (pi_list (pv 9)) (blkOk_by (N := ["_law_script", "_law_k", "_law_bag_here", "_law_other", "_law_state_here", "_law_cells", "_law_names", "_law_web_here", "_law_goal", "_law_rules", "_law_words", "_law_patterns", "_law_at", "_law_beneath_here", "_law_name_here", "_law_needs", "_law_marks", "_law_some", "_law_left", "_law_rule_here", "_law_there", "_law_kind_here"]) (sc := defScope s_law) (by decide +kernel)) (fun _ _ _ _ _ => (pg_name (i := 19) sc_law.nd rfl (Or.inl rfl))) (fun _ _ _ _ _ => pts_nil) (fun _ _ _ _ _ => (pe_tup (pa_cons (pe_ix (x_ix (K := K) rfl) (pv 19) pe_int (fun _ _ => rfl)) (pa_cons (pe_ix (x_ix (K := K) rfl) (pv 19) pe_int (fun _ _ => rfl)) pa_nil))))) pa_nil)) pa_nil))) (pg_tup rfl (pgs_cons (pg_name (i := 10) sc_law.nd rfl (Or.inr rfl)) (pgs_cons (pg_name (i := 11) sc_law.nd rfl (Or.inl rfl)) pgs_nil))))
      (pss_one (ps_for PassesOwn.never rfl (pi_range1 (by rfl) B.range_ (pa_cons (pe_callB (x_len (K := K) rfl) (by rfl) B.len_ bt_len (pa_cons (pv 7) pa_nil)) pa_nil)) (pg_name (i := 12) sc_law.nd rfl (Or.inl rfl)) (pss_cons (ps_set (i := 13) sc_law.nd rfl (Or.inr rfl) (pe_call g_beneath (hr.mono (by omega)) (by rfl) m_beneath k_beneath b_beneath .nil pass0 (pa_cons (pv 7) (pa_cons (pv 12) pa_nil))))
      (pss_one (ps_for PassesOwn.never rfl (pi_list (pe_call g_fits (hr.mono (by omega)) (by rfl) m_fits k_fits b_fits .nil pass0 (pa_cons (pe_tup (pa_cons (pv 8) (pa_cons (pv 9) pa_nil))) (pa_cons (pv 7) (pa_cons (pv 12) pa_nil))))) (pg_tup rfl (pgs_cons (pg_name (i := 14) sc_law.nd rfl (Or.inl rfl)) (pgs_cons (pg_name (i := 15) sc_law.nd rfl (Or.inl rfl)) (pgs_cons (pg_name (i := 16) sc_law.nd rfl (Or.inl rfl)) pgs_nil)))) (pss_cons (ps_if (pt_not (pt_val (pe_callB (x_all (K := K) rfl rfl) (by rfl) B.all_ bt_all (pa_cons (pe_lc (own := [("_law_there", 20), ("_law_kind_here", 21)]) rfl sc_law.nd (pi_tup (pv 15)) (blkOk_by (N := ["_law_script", "_law_k", "_law_bag_here", "_law_other", "_law_state_here", "_law_cells", "_law_names", "_law_web_here", "_law_goal", "_law_rules", "_law_words", "_law_patterns", "_law_at", "_law_beneath_here", "_law_name_here", "_law_needs", "_law_marks", "_law_some", "_law_left", "_law_rule_here", "_law_there", "_law_kind_here"]) (sc := defScope s_law) (by decide +kernel)) (fun _ _ _ _ _ => (pg_tup rfl (pgs_cons (pg_name (i := 20) sc_law.nd rfl (Or.inl rfl)) (pgs_cons (pg_name (i := 21) sc_law.nd rfl (Or.inl rfl)) pgs_nil)))) (fun _ _ _ _ _ => pts_nil) (fun _ _ _ _ _ => (pe_cmpR (x_in (K := K) rfl (hu65 hr)) (pv 20) (pv 13) (by first | exact nomark _ | rfl)))) pa_nil)))) (pss_one (ps_ret pe_bl)) pss_nil)
      (pss_cons (ps_par (i := 17) (j := 18) rfl sc_law.nd rfl rfl (by decide) rfl rfl (pa_cons (pe_lc (own := [("_law_there", 20), ("_law_kind_here", 21)]) rfl sc_law.nd (pi_tup (pv 15)) (blkOk_by (N := ["_law_script", "_law_k", "_law_bag_here", "_law_other", "_law_state_here", "_law_cells", "_law_names", "_law_web_here", "_law_goal", "_law_rules", "_law_words", "_law_patterns", "_law_at", "_law_beneath_here", "_law_name_here", "_law_needs", "_law_marks", "_law_some", "_law_left", "_law_rule_here", "_law_there", "_law_kind_here"]) (sc := defScope s_law) (by decide +kernel)) (fun _ _ _ _ _ => (pg_tup rfl (pgs_cons (pg_name (i := 20) sc_law.nd rfl (Or.inl rfl)) (pgs_cons (pg_name (i := 21) sc_law.nd rfl (Or.inl rfl)) pgs_nil)))) (fun _ _ _ _ _ => pts_nil) (fun _ _ _ _ _ => (pe_ix (x_ix (K := K) rfl) (pv 10) (pv 20) (fun _ _ => rfl)))) (pa_cons (pe_callTy (x_listOf (K := K) rfl) (by rfl) B.list_ bt_list (pa_cons (pv 16) pa_nil)) pa_nil)) rfl)
      (pss_cons (ps_if (pt_cmpR (x_eq (K := K) rfl (hu64 hr)) (pv 12) (pe_op op_sub (pe_callB (x_len (K := K) rfl) (by rfl) B.len_ bt_len (pa_cons (pv 7) pa_nil)) pe_int) (by first | exact nomark _ | rfl)) (pss_one (ps_if (pt_not (pt_val (pe_call g_deed_right (hr.mono (by omega)) (by rfl) m_deed_right k_deed_right b_deed_right .nil pass0 (pa_cons (pv 7) (pa_cons (pv 4) (pa_cons (pe_dget (hu_of hr) (pv 11) (pv 14) (fun _ _ => rfl)) (pa_cons (pv 17) (pa_cons (pv 18) (pa_cons (pv 5) (pa_cons (pv 6) pa_nil)))))))))) (pss_one (ps_ret pe_bl)) pss_nil)) (pss_one (ps_if (pt_cmpR (x_ne (K := K) rfl (hu64 hr)) (pe_call g_pattern_word (hr.mono (by omega)) (by rfl) m_pattern_word k_pattern_word b_pattern_word .nil pass0 (pa_cons (pe_dget (hu_of hr) (pv 11) (pv 14) (fun _ _ => rfl)) (pa_cons (pv 17) (pa_cons (pv 18) (pa_cons (pv 5) (pa_cons (pv 6) pa_nil)))))) (pe_ix (x_ix (K := K) rfl) (pv 10) (pv 12) (fun _ _ => rfl)) (by first | exact nomark _ | rfl)) (pss_one (ps_ret pe_bl)) pss_nil)))
      (pss_one (ps_if (pt_cmpR (x_ne (K := K) rfl (hu64 hr)) (pe_op (x_add (K := K) rfl) (pv 17) (pv 18)) (pe_lst pa_nil) (by first | exact nomark _ | rfl)) (pss_one (ps_ret pe_bl)) pss_nil))))))))))))))))
      (pss_one (ps_ret pe_bl))))
    h (fun us M Qu hd => ?_)
  obtain ⟨ns, rfl, rfl, hd, k⟩ := hd
  have hsl : 1000000 ≤ sizeLine := by decide
  walk_at "go"
  refine ⟨_, _, _, _, rfl, rfl, rfl, ⟨by decide, by decide⟩, ?_⟩
  walk_at "go"
  refine ⟨by split <;> split <;> omega, ?_⟩
  skip
  refine wLoop_recO (fun us ρ M => ∃ (i : Int) (n : Nat) (x_k x_bag_here x_other x_state_here x_cells x_names x_web_here x_goal x_rules x_words x_patterns x_at x_beneath_here x_name_here x_needs x_marks x_some x_left x_rule_here x_there x_kind_here : Option U), (us = intsU i n) ∧ (0 ≤ i) ∧ (i + n ≤ 10) ∧ ρ = [some (.s K ns), x_k, x_bag_here, x_other, x_state_here, x_cells, x_names, x_web_here, x_goal, x_rules, x_words, x_patterns, x_at, x_beneath_here, x_name_here, x_needs, x_marks, x_some, x_left, x_rule_here, x_there, x_kind_here] ∧ M = []) ?_ ?_ _ _ _ ⟨0, _, _, _, _, _, _, _, _, _, _, _, _, _, _, _, _, _, _, _, _, _, _, rfl, Int.le_refl 0, by split <;> split <;> omega, rfl, rfl⟩
  · rintro ρ M ⟨i, n, x_k, x_bag_here, x_other, x_state_here, x_cells, x_names, x_web_here, x_goal, x_rules, x_words, x_patterns, x_at, x_beneath_here, x_name_here, x_needs, x_marks, x_some, x_left, x_rule_here, x_there, x_kind_here, hu, hi, hin, rfl, rfl⟩
    refine ⟨trivial, ?_⟩
    walk_at "go"
    exact fin_d0 k
  · rintro Nn Rr Bb u us ih ρ M ⟨i, n, x_k, x_bag_here, x_other, x_state_here, x_cells, x_names, x_web_here, x_goal, x_rules, x_words, x_patterns, x_at, x_beneath_here, x_name_here, x_needs, x_marks, x_some, x_left, x_rule_here, x_there, x_kind_here, hu, hi, hin, rfl, rfl⟩
    cases n with
    | zero => cases hu
    | succ n =>
      rw [intsU_succ] at hu
      injection hu with e1' e2'
      subst e1'
      refine ⟨trivial, ?_⟩
      walk_at "go"
      refine ⟨_, _, _, _, rfl, rfl, rfl, .inl ⟨by omega, by omega⟩, ?_⟩
      walk_at "go"
      refine ⟨by omega, by omega, by omega, fun g h hb => ?_⟩
      walk_at "go"
      refine ⟨_, _, _, _, rfl, rfl, rfl, .inl ⟨by omega, by omega⟩, ?_⟩
      walk_at "go"
      refine ⟨by omega, by omega, by omega, fun g2 h2 hb2 => ?_⟩
      walk_at "go"
      skip
      skip
      refine ⟨(fun ρ M => ∃ (cs : List Int) (kvs nk : KV) (g h g2 h2 : Int) (x_k x_web_here x_goal x_rules x_words x_patterns x_at x_beneath_here x_name_here x_needs x_marks x_some x_left x_rule_here x_there x_kind_here : Option U), (Twin cs kvs nk) ∧ (bagOk g h) ∧ (bagOk g2 h2) ∧ ρ = [some (.s K ns), x_k, some (.p 0), some (.p 1), some (.p 2), some (.p 5), some (.p 6), x_web_here, x_goal, x_rules, x_words, x_patterns, x_at, x_beneath_here, x_name_here, x_needs, x_marks, x_some, x_left, x_rule_here, x_there, x_kind_here] ∧ M = [bagO g h, bagO g2 h2, stJ C_State 2, .lst (intL cs), .dic kvs, .lst (intL cs), .dic nk, .tpp [.p 2, .p 5, .p 6]]), ?_, ?_⟩
      · walk_at "go"
        refine ⟨hb, fun cs kvs nk g h ht hb => ?_⟩
        walk_at "go"
        exact ⟨cs, kvs, nk, g, h, g2, h2, _, _, _, _, _, _, _, _, _, _, _, _, _, _, _, _, ht, hb, hb2, rfl, rfl⟩
      rintro ρ M ⟨cs, kvs, nk, g, h, g2, h2, x_k, x_web_here, x_goal, x_rules, x_words, x_patterns, x_at, x_beneath_here, x_name_here, x_needs, x_marks, x_some, x_left, x_rule_here, x_there, x_kind_here, ht, hb, hb2, rfl, rfl⟩
      walk_at "go"
      refine ⟨_, _, 4, rfl, rfl, hb, by first | decide | omega | (simp only [List.length_map, len_kids]; omega) | (simp <;> omega), by first | decide | omega | (simp only [List.length_map, len_kids]; omega) | (simp <;> omega), fun a g h a_0 a_1 hb => ?_⟩
      obtain ⟨m, hm, m1, m2⟩ := many4 a a_0 a_1
      refine ⟨_, _, _, rfl, rfl, ix_t hm, ?_⟩
      walk_at "go"
      refine ⟨_, _, 2, rfl, rfl, hb, by first | decide | omega | (simp only [List.length_map, len_kids]; omega) | (simp <;> omega), by first | decide | omega | (simp only [List.length_map, len_kids]; omega) | (simp <;> omega), fun b g h b_0 b_1 hb => ?_⟩
      walk_at "go"
      refine ⟨_, _, m, PyData.eqv (.int b) (.int 0), rfl, rfl, hb, by omega, by omega, fun parts deed g h hw p1 p2 hb => ?_⟩
      skip
      refine ⟨(fun ρ M => ∃ (gl : Str) (rs : List Rule) (g h g2 h2 : Int) (x_k x_words x_patterns x_at x_beneath_here x_name_here x_needs x_marks x_some x_left x_rule_here x_there x_kind_here : Option U), (MachOk gl rs) ∧ (rs.length ≤ 24) ∧ (bagOk g h) ∧ (bagOk g2 h2) ∧ ρ = [some (.s K ns), x_k, some (.p 0), some (.p 1), some (.p 2), some (.p 5), some (.p 6), some (.d (encWeb (parts ++ [deed]))), some (.d (.str (gl))), some (.d (.list (rs.map Rule.enc))), x_words, x_patterns, x_at, x_beneath_here, x_name_here, x_needs, x_marks, x_some, x_left, x_rule_here, x_there, x_kind_here] ∧ M = [bagO g h, bagO g2 h2, stJ C_State 2, .lst (intL cs), .dic kvs, .lst (intL cs), .dic nk, .tpp [.p 2, .p 5, .p 6]]), ?_, ?_⟩
      · walk_at "go"
        refine ⟨_, _, 3, rfl, rfl, hb2, by first | decide | omega | (simp only [List.length_map, len_kids]; omega) | (simp <;> omega), by first | decide | omega | (simp only [List.length_map, len_kids]; omega) | (simp <;> omega), fun c g2 h2 c_0 c_1 hb2 => ?_⟩
        obtain ⟨mr, hmr, mr1, mr2⟩ := many12 c c_0 c_1
        refine ⟨_, _, _, rfl, rfl, ix_t hmr, ?_⟩
        walk_at "go"
        refine ⟨_, _, parts, deed, mr, rfl, rfl, hb2, hw.part, hw.dd, by omega, by omega, fun gl rs g2 h2 hmo hrl hb2 => ?_⟩
        walk_at "go"
        exact ⟨gl, rs, _, _, g2, h2, _, _, _, _, _, _, _, _, _, _, _, _, _, hmo, by omega, hb, hb2, rfl, rfl⟩
      rintro ρ M ⟨gl, rs, g, h, g2, h2, x_k, x_words, x_patterns, x_at, x_beneath_here, x_name_here, x_needs, x_marks, x_some, x_left, x_rule_here, x_there, x_kind_here, hmo, hrl, hb, hb2, rfl, rfl⟩
      have hwk := web_ndok hw.part hw.dd
      have hkl := web_kidslt hw.part hw.dd
      have hrok := hmo.rules
      have hlw : (parts ++ [deed]).length = parts.length + 1 := by rw [List.length_append, List.length_singleton]
      have hnd := titles_nodup hmo.names
      have hdr := webS_of hw (by omega)
      have ok1 := ok_run_of parts 0 (fun i n e => by rw [Nat.zero_add]; exact hw.part i n e)
      have hwl : (wsOf cs nk parts).length = parts.length := by
        obtain ⟨vs, e1, e2⟩ := runW_ext cs (nat_ nk) (parts.map Nd.tup) []
        unfold wsOf
        rw [e1, List.nil_append, e2, List.length_map]
      skip
      skip
      refine ⟨(fun ρ M => ∃  (x_k x_at x_beneath_here x_name_here x_needs x_marks x_some x_left x_rule_here x_there x_kind_here : Option U), ρ = [some (.s K ns), x_k, some (.p 0), some (.p 1), some (.p 2), some (.p 5), some (.p 6), some (.d (encWeb (parts ++ [deed]))), some (.d (.str (gl))), some (.d (.list (rs.map Rule.enc))), some (.d (.list (intL (wsOf cs nk parts) ++ [.int 0]))), some (.p 9), x_at, x_beneath_here, x_name_here, x_needs, x_marks, x_some, x_left, x_rule_here, x_there, x_kind_here] ∧ M = [bagO g h, bagO g2 h2, stJ C_State 2, .lst (intL cs), .dic kvs, .lst (intL cs), .dic nk, .tpp [.p 2, .p 5, .p 6], .lst (intL (wsOf cs nk parts)), .dic (patL rs), .tpp [.d (.list (intL (wsOf cs nk parts) ++ [.int 0])), .p 9]]), ?_, ?_⟩
      · walk_at "go"
        refine ⟨_, _, cs, nk, by rw [enc_web_tup]; rfl, rfl, ht.b, hdr, ?_⟩
        walk_at "go"
        have hlen : (intL (wsOf cs nk parts)).length = parts.length := by rw [← hwl]; exact List.length_map _
        refine ⟨_, _, _, _, rfl, rfl, rfl, by show (intL (wsOf cs nk parts)).length + 1 ≤ sizeLine; omega, ?_⟩
        walk_at "go"
        refine mapc_go trivial rs Rule.enc (fun r => .tuple [.str r.name, r.pat.enc]) (fun x acc R hx hac hR => ?_) ?_
        · rw [List.map_append] at hR
          walk_at "go"
          exact ⟨by rw [List.length_map]; omega, hR⟩
        refine ⟨_, dats_map _, ?_⟩
        rw [pat_pairs]
        walk_at "go"
        rw [pat_merge hnd]
        walk_at "go"
        first | exact rfl | exact ⟨_, _, _, _, _, _, _, _, _, _, _, rfl, rfl⟩
      rintro ρ M ⟨x_k, x_at, x_beneath_here, x_name_here, x_needs, x_marks, x_some, x_left, x_rule_here, x_there, x_kind_here, rfl, rfl⟩
      walk_at "go"
      rw [List.length_map, hlw]
      refine ⟨by omega, ?_⟩
      rw [Int.toNat_natCast]
      refine wLoop_recO (fun us ρ M => ∃ (j m : Nat) (x_k x_at x_beneath_here x_name_here x_needs x_marks x_some x_left x_rule_here x_there x_kind_here : Option U), (us = intsU (j : Int) m) ∧ (j + m = parts.length + 1) ∧ ρ = [some (.s K ns), x_k, some (.p 0), some (.p 1), some (.p 2), some (.p 5), some (.p 6), some (.d (encWeb (parts ++ [deed]))), some (.d (.str (gl))), some (.d (.list (rs.map Rule.enc))), some (.d (.list (intL (wsOf cs nk parts) ++ [.int 0]))), some (.p 9), x_at, x_beneath_here, x_name_here, x_needs, x_marks, x_some, x_left, x_rule_here, x_there, x_kind_here] ∧ M = [bagO g h, bagO g2 h2, stJ C_State 2, .lst (intL cs), .dic kvs, .lst (intL cs), .dic nk, .tpp [.p 2, .p 5, .p 6], .lst (intL (wsOf cs nk parts)), .dic (patL rs), .tpp [.d (.list (intL (wsOf cs nk parts) ++ [.int 0])), .p 9]]) ?_ ?_ _ _ _ ⟨0, parts.length + 1, _, _, _, _, _, _, _, _, _, _, _, rfl, by omega, rfl, rfl⟩
      · rintro ρ M ⟨j, m, x_k, x_at, x_beneath_here, x_name_here, x_needs, x_marks, x_some, x_left, x_rule_here, x_there, x_kind_here, hu, hj, rfl, rfl⟩
        refine ⟨trivial, ?_⟩
        walk_at "go"
        refine trim_k rfl ?_
        exact ih _ _ ⟨_, n, _, _, _, _, _, _, _, _, _, _, _, _, _, _, _, _, _, _, _, _, _, e2', by omega, by omega, rfl, rfl⟩
      · rintro Nn Rr Bb u us ih2 ρ M ⟨j, m, x_k, x_at, x_beneath_here, x_name_here, x_needs, x_marks, x_some, x_left, x_rule_here, x_there, x_kind_here, hu, hj, rfl, rfl⟩
        cases m with
        | zero => cases hu
        | succ m =>
        rw [intsU_succ] at hu
        injection hu with e3 e4
        subst e3
        have hja : j < parts.length + 1 := by omega
        have hfr : fitsD (parts ++ [deed]) j rs = (rowsL (parts ++ [deed]) j rs).map Row.encR := fitsD_rows _ _ _
        have hneeds := rows_needs (rch_emb hkl (top := j) (by omega)) (a := j) .top (rs := rs)
        have hrm := rows_mem (web := parts ++ [deed]) (a := j) (rs := rs)
        obtain ⟨RW, eRW⟩ : ∃ x, rowsL (parts ++ [deed]) j rs = x := ⟨_, rfl⟩
        rw [eRW] at hneeds hrm hfr
        skip
        refine ⟨trivial, ?_⟩
        refine ⟨(fun ρ M => ∃ (F : List Nat) (x_k x_name_here x_needs x_marks x_some x_left x_rule_here x_there x_kind_here : Option U), (∀ x, Rch (parts ++ [deed]) j x → x ∈ F) ∧ ρ = [some (.s K ns), x_k, some (.p 0), some (.p 1), some (.p 2), some (.p 5), some (.p 6), some (.d (encWeb (parts ++ [deed]))), some (.d (.str (gl))), some (.d (.list (rs.map Rule.enc))), some (.d (.list (intL (wsOf cs nk parts) ++ [.int 0]))), some (.p 9), some (.d (.int ((j : Int)))), some (.d (.list (encKids F))), x_name_here, x_needs, x_marks, x_some, x_left, x_rule_here, x_there, x_kind_here] ∧ M = [bagO g h, bagO g2 h2, stJ C_State 2, .lst (intL cs), .dic kvs, .lst (intL cs), .dic nk, .tpp [.p 2, .p 5, .p 6], .lst (intL (wsOf cs nk parts)), .dic (patL rs), .tpp [.d (.list (intL (wsOf cs nk parts) ++ [.int 0])), .p 9]]), ?_, ?_⟩
        · walk_at "go"
          refine ⟨hkl, by omega, by omega, fun F hF => ?_⟩
          walk_at "go"
          exact ⟨F, _, _, _, _, _, _, _, _, _, hF, rfl, rfl⟩
        rintro ρ M ⟨F, x_k, x_name_here, x_needs, x_marks, x_some, x_left, x_rule_here, x_there, x_kind_here, hF, rfl, rfl⟩
        walk_at "go"
        refine ask_fits (g := gl) (rs := rs) (web := parts ++ [deed]) (a := j) hwk (rules_okR hrok hrl) (by rw [hlw]; exact hja) ?_
        rw [hfr]
        refine ⟨_, rfl, ?_⟩
        refine ⟨_, rfl, ?_⟩
        refine wLoop_recO (fun us ρ M => ∃ (td : List Row) (x_k x_name_here x_needs x_marks x_some x_left x_rule_here x_there x_kind_here : Option U), (∀ x ∈ td, x ∈ RW) ∧ (us = (td.map Row.encR).map U.d) ∧ ρ = [some (.s K ns), x_k, some (.p 0), some (.p 1), some (.p 2), some (.p 5), some (.p 6), some (.d (encWeb (parts ++ [deed]))), some (.d (.str (gl))), some (.d (.list (rs.map Rule.enc))), some (.d (.list (intL (wsOf cs nk parts) ++ [.int 0]))), some (.p 9), some (.d (.int ((j : Int)))), some (.d (.list (encKids F))), x_name_here, x_needs, x_marks, x_some, x_left, x_rule_here, x_there, x_kind_here] ∧ M = [bagO g h, bagO g2 h2, stJ C_State 2, .lst (intL cs), .dic kvs, .lst (intL cs), .dic nk, .tpp [.p 2, .p 5, .p 6], .lst (intL (wsOf cs nk parts)), .dic (patL rs), .tpp [.d (.list (intL (wsOf cs nk parts) ++ [.int 0])), .p 9]]) ?_ ?_ _ _ _ ⟨RW, _, _, _, _, _, _, _, _, _, fun x h => h, rfl, rfl, rfl⟩
        · rintro ρ M ⟨td, x_k, x_name_here, x_needs, x_marks, x_some, x_left, x_rule_here, x_there, x_kind_here, hs, hu, rfl, rfl⟩
          refine ⟨trivial, ?_⟩
          walk_at "go"
          refine trim_k rfl ?_
          exact ih2 _ _ ⟨j + 1, m, _, _, _, _, _, _, _, _, _, _, _, e4, by omega, rfl, rfl⟩
        · rintro Nn Rr Bb u us ih3 ρ M ⟨td, x_k, x_name_here, x_needs, x_marks, x_some, x_left, x_rule_here, x_there, x_kind_here, hs, hu, rfl, rfl⟩
          cases td with
          | nil => cases hu
          | cons x td =>
          obtain ⟨rfl, rfl⟩ : u = U.d x.encR ∧ us = (td.map Row.encR).map U.d := by simpa using hu
          obtain ⟨nm, nds, mks⟩ := x
          have hxm := hs (nm, nds, mks) List.mem_cons_self
          have hxL := hneeds (nm, nds, mks) hxm
          obtain ⟨r, hr, enm, hfit⟩ := hrm (nm, nds, mks) hxm
          have enm' : nm = r.name := enm
          subst enm'
          refine ⟨trivial, ?_⟩
          have q := hrok r hr
          have hsz := size_le r.pat q.pat.top
          have hops := q.pat.ops
          have hdep := q.pat.dep
          obtain ⟨z1, z2⟩ := fit_size _ _ _ _ _ hfit
          have z1' : nds.length ≤ r.pat.size := z1
          have z2' : mks.length ≤ r.pat.size := z2
          have hyl : ∀ y ∈ nds, y.1 ≤ j := fun y hy => rch_le hkl (hxL y hy)
          skip
          walk_at "go"
          refine mapc_go trivial nds encNeed (fun y => .bool (decide (y.1 ∈ F))) (fun y acc R hy hac hR => ?_) ?_
          · walk_at "go"
            refine ⟨_, _, _, _, rfl, rfl, rfl, ⟨rfl, kids_shaped F⟩, ?_⟩
            rw [kids_in]
            rw [List.map_append] at hR
            exact ⟨by rw [List.length_map]; omega, hR⟩
          refine ⟨_, dats_map _, ?_⟩
          walk_at "go"
          refine ⟨_, _, _, rfl, rfl, bools_of17 _ _, ?_⟩
          have ea : (nds.map fun y => decide (y.1 ∈ F)).all id = true := by
            rw [List.all_map]
            exact List.all_eq_true.mpr fun y hy => decide_eq_true (hF y.1 (hxL y hy))
          refine ⟨true, congrArg (fun b => U.d (.bool b)) ea, ?_⟩
          walk_at "go"
          refine ⟨(fun ρ M => ∃  (x_k x_rule_here x_there x_kind_here : Option U), ρ = [some (.s K ns), x_k, some (.p 0), some (.p 1), some (.p 2), some (.p 5), some (.p 6), some (.d (encWeb (parts ++ [deed]))), some (.d (.str (gl))), some (.d (.list (rs.map Rule.enc))), some (.d (.list (intL (wsOf cs nk parts) ++ [.int 0]))), some (.p 9), some (.d (.int ((j : Int)))), some (.d (.list (encKids F))), some (.d (.str (r.name))), some (.d (.tuple (nds.map encNeed))), some (.d (.tuple mks)), some (.p 11), some (.p 12), x_rule_here, x_there, x_kind_here] ∧ M = [bagO g h, bagO g2 h2, stJ C_State 2, .lst (intL cs), .dic kvs, .lst (intL cs), .dic nk, .tpp [.p 2, .p 5, .p 6], .lst (intL (wsOf cs nk parts)), .dic (patL rs), .tpp [.d (.list (intL (wsOf cs nk parts) ++ [.int 0])), .p 9], .lst (intL (needW cs nk parts nds)), .lst mks]), ?_, ?_⟩
          · walk_at "go"
            refine mapc_go trivial nds encNeed (fun y => .int ((wsOf cs nk parts).getD y.1 0)) (fun y acc R hy hac hR => ?_) ?_
            · have := hyl y hy
              walk_at "go"
              refine ⟨_, _, _, rfl, rfl, ix_l (word_at17 _ _ (by rw [hwl]; omega)), ?_⟩
              rw [List.map_append] at hR
              exact ⟨by rw [List.length_map]; omega, hR⟩
            refine ⟨_, dats_map _, ?_⟩
            rw [show (nds.map fun y => PyData.int ((wsOf cs nk parts).getD y.1 0)) = intL (needW cs nk parts nds) by unfold needW intL; rw [List.map_map]; rfl]
            walk_at "go"
            first | exact rfl | exact ⟨_, _, _, _, rfl, rfl⟩
          rintro ρ M ⟨x_k, x_rule_here, x_there, x_kind_here, rfl, rfl⟩
          walk_at "go"
          rw [List.length_map, hlw, eqv_i]
          refine witeD (fun he => ?_) (fun he => ?_)
          · have hjN : j = parts.length := by omega
            subst hjN
            walk_at "go"
            refine ⟨_, _, _, _, _, rfl, rfl, rfl, rfl, pat_get hnd r hr, ?_⟩
            walk_at "go"
            refine ⟨_, parts, deed, cs, kvs, nk, r.pat, nds, mks, rfl, rfl, ht, hw, by omega, by omega, hfit, q.pat.top, by omega, by omega, by omega, ?_⟩
            walk_at "go"
            refine ⟨_, _, _, _, rfl, rfl, rfl, .inr ⟨rfl, by decide⟩, ?_⟩
            refine ⟨_, rfl, ?_⟩
            walk_at "go"
            refine trim_k rfl ?_
            exact ih3 _ _ ⟨td, _, _, _, _, _, _, _, _, _, fun x hx => hs x (List.mem_cons_of_mem _ hx), rfl, rfl, rfl⟩
          · have hj2 : j < parts.length := by omega
            walk_at "go"
            refine ⟨_, _, _, _, _, rfl, rfl, rfl, rfl, pat_get hnd r hr, ?_⟩
            walk_at "go"
            refine ask_pword0 ht.b hw.part hw.dd (by omega) hfit hj2 (part_good hw.part hj2 q.pat.top hfit) (by omega) (by omega) (by omega) ?_
            walk_at "go"
            refine ⟨_, _, _, rfl, rfl, ix_l (word_at17 _ _ (by rw [hwl]; omega)), ?_⟩
            walk_at "go"
            refine wine (fun ne => absurd rfl ne) (fun _ => ?_)
            walk_at "go"
            refine ⟨_, _, _, _, rfl, rfl, rfl, .inr ⟨rfl, by decide⟩, ?_⟩
            refine ⟨_, rfl, ?_⟩
            walk_at "go"
            refine trim_k rfl ?_
            exact ih3 _ _ ⟨td, _, _, _, _, _, _, _, _, _, fun x hx => hs x (List.mem_cons_of_mem _ hx), rfl, rfl, rfl⟩


end
/-! ### what the top has written -/
theorem all_mk {l : PySem.W.OpenLaw} {w : World} {K : PySem.W.Frag} {h : Heap} {mg : Str → Option Value} {fa f1 f2 f3 f4 f5 f6 f7 f8 f9 f10 f11 f12 f13 f14 f15 f16 f17 f18 f19 f20 f21 f22 f23 f24 f25 f26 f27 f28 f29 f30 f31 f32 f33 f34 f35 f36 f37 f38 f39 f40 f41 f42 : Addr} (X : K.In h) (G : h.Ns mainGlobals mg) (hfa : mg "law" = some (.ref fa))
    {od1 an1 od2 an2 od3 an3 od4 an4 od5 an5 od6 an6 od7 an7 od8 an8 od9 an9 od10 an10 od11 an11 od12 an12 od13 an13 od14 an14 od15 an15 od16 an16 od17 an17 od18 an18 od19 an19 od20 an20 od21 an21 od22 an22 od23 an23 od24 an24 od25 an25 od26 an26 od27 an27 od28 an28 od29 an29 od30 an30 od31 an31 od32 an32 od33 an33 od34 an34 od35 an35 od36 an36 od37 an37 od38 an38 od39 an39 od40 an40 od41 an41 od42 an42 : Option Addr} {sl1 sl2 sl3 sl4 sl5 sl6 sl7 sl8 sl9 sl10 sl11 sl12 sl13 sl14 sl15 sl16 sl17 sl18 sl19 sl20 sl21 sl22 sl23 sl24 sl25 sl26 sl27 sl28 sl29 sl30 sl31 sl32 sl33 sl34 sl35 sl36 sl37 sl38 sl39 sl40 sl41 sl42 : Array (Option Value)} {oc1 kV1 dc1 pm1 cd1 ct1 oc2 kV2 dc2 pm2 cd2 ct2 oc3 kV3 dc3 pm3 cd3 ct3 oc4 kV4 dc4 pm4 cd4 ct4 oc5 kV5 dc5 pm5 cd5 ct5 oc6 kV6 dc6 pm6 cd6 ct6 oc7 kV7 dc7 pm7 cd7 ct7 oc8 kV8 dc8 pm8 cd8 ct8 oc9 kV9 dc9 pm9 cd9 ct9 oc10 kV10 dc10 pm10 cd10 ct10 oc11 kV11 dc11 pm11 cd11 ct11 oc12 kV12 dc12 pm12 cd12 ct12 oc13 kV13 dc13 pm13 cd13 ct13 oc14 kV14 dc14 pm14 cd14 ct14 oc15 kV15 dc15 pm15 cd15 ct15 oc16 kV16 dc16 pm16 cd16 ct16 oc17 kV17 dc17 pm17 cd17 ct17 oc18 kV18 dc18 pm18 cd18 ct18 oc19 kV19 dc19 pm19 cd19 ct19 oc20 kV20 dc20 pm20 cd20 ct20 oc21 kV21 dc21 pm21 cd21 ct21 oc22 kV22 dc22 pm22 cd22 ct22 oc23 kV23 dc23 pm23 cd23 ct23 oc24 kV24 dc24 pm24 cd24 ct24 oc25 kV25 dc25 pm25 cd25 ct25 oc26 kV26 dc26 pm26 cd26 ct26 oc27 kV27 dc27 pm27 cd27 ct27 oc28 kV28 dc28 pm28 cd28 ct28 oc29 kV29 dc29 pm29 cd29 ct29 oc30 kV30 dc30 pm30 cd30 ct30 oc31 kV31 dc31 pm31 cd31 ct31 oc32 kV32 dc32 pm32 cd32 ct32 oc33 kV33 dc33 pm33 cd33 ct33 oc34 kV34 dc34 pm34 cd34 ct34 oc35 kV35 dc35 pm35 cd35 ct35 oc36 kV36 dc36 pm36 cd36 ct36 oc37 kV37 dc37 pm37 cd37 ct37 oc38 kV38 dc38 pm38 cd38 ct38 oc39 kV39 dc39 pm39 cd39 ct39 oc40 kV40 dc40 pm40 cd40 ct40 oc41 kV41 dc41 pm41 cd41 ct41 oc42 kV42 dc42 pm42 cd42 ct42 : Value}
    {C_State : Addr} (aC_State : PySem.W.nsIn K mainGlobals "State" = some (some (.ref C_State))) (pg_State : PySem.W.plainGet K C_State Str.empty = true) (hd_State : PySem.W.hasDictIn K C_State = true) (po_State : PySem.W.plainOver K C_State = true) (sa_State : PySem.W.findIn K (.ref C_State) "__setattr__" = some (some (.builtin "object.__setattr__"))) (mk_State : PySem.W.makesIn K C_State = true) (kc_State : PySem.W.keepIn K (.ref C_State) = true)
    (nA_State_cells : PySem.W.findIn K (.ref C_State) "cells" = some none)
    (nA_State_named : PySem.W.findIn K (.ref C_State) "named" = some none)
    (e1_State : PySem.W.findIn K (.ref C_State) "__class__" = some (some (.builtin "object.__class__"))) (e2_State : PySem.W.specialIn K (.builtin "object.__class__") "__get__" = some (some (.builtin "getset_descriptor.__get__"))) (e3_State : PySem.W.takesIn K (.builtin "object.__class__") = some true) (e4_State : PySem.W.mroIn K C_State (.type "object") = some true) (e5_State : PySem.W.kitOne K (.ref C_State) (.ref C_State) = some true) (e6_State : PySem.W.findIn K (.ref C_State) "__ne__" = some (some (.builtin "object.__ne__")))
    (a1 : PySem.W.nsIn K mainGlobals "_law_bag" = some (some (.ref f1))) (l1 : K.lookup f1 = some ⟨oc1, od1, .func (PySem.W.fnOf "_law_bag" "_law_bag" (defArgs s_bag) (defBody s_bag) (defScope s_bag) .none kV1 dc1 pm1 an1 cd1 ct1), sl1⟩) (c1 : PySem.W.codeIn K cd1 "_law_bag" = true) (k1 : PySem.W.keepIn K (.ref f1) = true)
    (a2 : PySem.W.nsIn K mainGlobals "_law_take" = some (some (.ref f2))) (l2 : K.lookup f2 = some ⟨oc2, od2, .func (PySem.W.fnOf "_law_take" "_law_take" (defArgs s_take) (defBody s_take) (defScope s_take) .none kV2 dc2 pm2 an2 cd2 ct2), sl2⟩) (c2 : PySem.W.codeIn K cd2 "_law_take" = true) (k2 : PySem.W.keepIn K (.ref f2) = true)
    (a3 : PySem.W.nsIn K mainGlobals "_law_word" = some (some (.ref f3))) (l3 : K.lookup f3 = some ⟨oc3, od3, .func (PySem.W.fnOf "_law_word" "_law_word" (defArgs s_word) (defBody s_word) (defScope s_word) .none kV3 dc3 pm3 an3 cd3 ct3), sl3⟩) (c3 : PySem.W.codeIn K cd3 "_law_word" = true) (k3 : PySem.W.keepIn K (.ref f3) = true)
    (a4 : PySem.W.nsIn K mainGlobals "is_fit" = some (some (.ref f4))) (l4 : K.lookup f4 = some ⟨oc4, od4, .func (PySem.W.fnOf "is_fit" "is_fit" (defArgs s_is_fit) (defBody s_is_fit) (defScope s_is_fit) .none kV4 dc4 pm4 an4 cd4 ct4), sl4⟩) (c4 : PySem.W.codeIn K cd4 "is_fit" = true) (k4 : PySem.W.keepIn K (.ref f4) = true)
    (a5 : PySem.W.nsIn K mainGlobals "matched" = some (some (.ref f5))) (l5 : K.lookup f5 = some ⟨oc5, od5, .func (PySem.W.fnOf "matched" "matched" (defArgs s_matched) (defBody s_matched) (defScope s_matched) .none kV5 dc5 pm5 an5 cd5 ct5), sl5⟩) (c5 : PySem.W.codeIn K cd5 "matched" = true) (k5 : PySem.W.keepIn K (.ref f5) = true)
    (a6 : PySem.W.nsIn K mainGlobals "fits" = some (some (.ref f6))) (l6 : K.lookup f6 = some ⟨oc6, od6, .func (PySem.W.fnOf "fits" "fits" (defArgs s_fits) (defBody s_fits) (defScope s_fits) .none kV6 dc6 pm6 an6 cd6 ct6), sl6⟩) (c6 : PySem.W.codeIn K cd6 "fits" = true) (k6 : PySem.W.keepIn K (.ref f6) = true)
    (a7 : PySem.W.nsIn K mainGlobals "_law_name" = some (some (.ref f7))) (l7 : K.lookup f7 = some ⟨oc7, od7, .func (PySem.W.fnOf "_law_name" "_law_name" (defArgs s_name) (defBody s_name) (defScope s_name) .none kV7 dc7 pm7 an7 cd7 ct7), sl7⟩) (c7 : PySem.W.codeIn K cd7 "_law_name" = true) (k7 : PySem.W.keepIn K (.ref f7) = true)
    (a8 : PySem.W.nsIn K mainGlobals "_law_part" = some (some (.ref f8))) (l8 : K.lookup f8 = some ⟨oc8, od8, .func (PySem.W.fnOf "_law_part" "_law_part" (defArgs s_part) (defBody s_part) (defScope s_part) .none kV8 dc8 pm8 an8 cd8 ct8), sl8⟩) (c8 : PySem.W.codeIn K cd8 "_law_part" = true) (k8 : PySem.W.keepIn K (.ref f8) = true)
    (a9 : PySem.W.nsIn K mainGlobals "_law_web" = some (some (.ref f9))) (l9 : K.lookup f9 = some ⟨oc9, od9, .func (PySem.W.fnOf "_law_web" "_law_web" (defArgs s_web) (defBody s_web) (defScope s_web) .none kV9 dc9 pm9 an9 cd9 ct9), sl9⟩) (c9 : PySem.W.codeIn K cd9 "_law_web" = true) (k9 : PySem.W.keepIn K (.ref f9) = true)
    (a10 : PySem.W.nsIn K mainGlobals "_law_kind" = some (some (.ref f10))) (l10 : K.lookup f10 = some ⟨oc10, od10, .func (PySem.W.fnOf "_law_kind" "_law_kind" (defArgs s_kind) (defBody s_kind) (defScope s_kind) .none kV10 dc10 pm10 an10 cd10 ct10), sl10⟩) (c10 : PySem.W.codeIn K cd10 "_law_kind" = true) (k10 : PySem.W.keepIn K (.ref f10) = true)
    (a11 : PySem.W.nsIn K mainGlobals "_law_kinds" = some (some (.ref f11))) (l11 : K.lookup f11 = some ⟨oc11, od11, .func (PySem.W.fnOf "_law_kinds" "_law_kinds" (defArgs s_kinds) (defBody s_kinds) (defScope s_kinds) .none kV11 dc11 pm11 an11 cd11 ct11), sl11⟩) (c11 : PySem.W.codeIn K cd11 "_law_kinds" = true) (k11 : PySem.W.keepIn K (.ref f11) = true)
    (a12 : PySem.W.nsIn K mainGlobals "_law_drawn" = some (some (.ref f12))) (l12 : K.lookup f12 = some ⟨oc12, od12, .func (PySem.W.fnOf "_law_drawn" "_law_drawn" (defArgs s_drawn) (defBody s_drawn) (defScope s_drawn) .none kV12 dc12 pm12 an12 cd12 ct12), sl12⟩) (c12 : PySem.W.codeIn K cd12 "_law_drawn" = true) (k12 : PySem.W.keepIn K (.ref f12) = true)
    (a13 : PySem.W.nsIn K mainGlobals "_law_pattern" = some (some (.ref f13))) (l13 : K.lookup f13 = some ⟨oc13, od13, .func (PySem.W.fnOf "_law_pattern" "_law_pattern" (defArgs s_pattern) (defBody s_pattern) (defScope s_pattern) .none kV13 dc13 pm13 an13 cd13 ct13), sl13⟩) (c13 : PySem.W.codeIn K cd13 "_law_pattern" = true) (k13 : PySem.W.keepIn K (.ref f13) = true)
    (a14 : PySem.W.nsIn K mainGlobals "_law_titles" = some (some (.ref f14))) (l14 : K.lookup f14 = some ⟨oc14, od14, .func (PySem.W.fnOf "_law_titles" "_law_titles" (defArgs s_titles) (defBody s_titles) (defScope s_titles) .none kV14 dc14 pm14 an14 cd14 ct14), sl14⟩) (c14 : PySem.W.codeIn K cd14 "_law_titles" = true) (k14 : PySem.W.keepIn K (.ref f14) = true)
    (a15 : PySem.W.nsIn K mainGlobals "_law_rule" = some (some (.ref f15))) (l15 : K.lookup f15 = some ⟨oc15, od15, .func (PySem.W.fnOf "_law_rule" "_law_rule" (defArgs s_rule) (defBody s_rule) (defScope s_rule) .none kV15 dc15 pm15 an15 cd15 ct15), sl15⟩) (c15 : PySem.W.codeIn K cd15 "_law_rule" = true) (k15 : PySem.W.keepIn K (.ref f15) = true)
    (a16 : PySem.W.nsIn K mainGlobals "_law_cut" = some (some (.ref f16))) (l16 : K.lookup f16 = some ⟨oc16, od16, .func (PySem.W.fnOf "_law_cut" "_law_cut" (defArgs s_cut) (defBody s_cut) (defScope s_cut) .none kV16 dc16 pm16 an16 cd16 ct16), sl16⟩) (c16 : PySem.W.codeIn K cd16 "_law_cut" = true) (k16 : PySem.W.keepIn K (.ref f16) = true)
    (a17 : PySem.W.nsIn K mainGlobals "_law_fitting" = some (some (.ref f17))) (l17 : K.lookup f17 = some ⟨oc17, od17, .func (PySem.W.fnOf "_law_fitting" "_law_fitting" (defArgs s_fitting) (defBody s_fitting) (defScope s_fitting) .none kV17 dc17 pm17 an17 cd17 ct17), sl17⟩) (c17 : PySem.W.codeIn K cd17 "_law_fitting" = true) (k17 : PySem.W.keepIn K (.ref f17) = true)
    (a18 : PySem.W.nsIn K mainGlobals "taken_less" = some (some (.ref f18))) (l18 : K.lookup f18 = some ⟨oc18, od18, .func (PySem.W.fnOf "taken_less" "taken_less" (defArgs s_taken_less) (defBody s_taken_less) (defScope s_taken_less) .none kV18 dc18 pm18 an18 cd18 ct18), sl18⟩) (c18 : PySem.W.codeIn K cd18 "taken_less" = true) (k18 : PySem.W.keepIn K (.ref f18) = true)
    (a19 : PySem.W.nsIn K mainGlobals "together" = some (some (.ref f19))) (l19 : K.lookup f19 = some ⟨oc19, od19, .func (PySem.W.fnOf "together" "together" (defArgs s_together) (defBody s_together) (defScope s_together) .none kV19 dc19 pm19 an19 cd19 ct19), sl19⟩) (c19 : PySem.W.codeIn K cd19 "together" = true) (k19 : PySem.W.keepIn K (.ref f19) = true)
    (a20 : PySem.W.nsIn K mainGlobals "times" = some (some (.ref f20))) (l20 : K.lookup f20 = some ⟨oc20, od20, .func (PySem.W.fnOf "times" "times" (defArgs s_times) (defBody s_times) (defScope s_times) .none kV20 dc20 pm20 an20 cd20 ct20), sl20⟩) (c20 : PySem.W.codeIn K cd20 "times" = true) (k20 : PySem.W.keepIn K (.ref f20) = true)
    (a21 : PySem.W.nsIn K mainGlobals "bits_both" = some (some (.ref f21))) (l21 : K.lookup f21 = some ⟨oc21, od21, .func (PySem.W.fnOf "bits_both" "bits_both" (defArgs s_bits_both) (defBody s_bits_both) (defScope s_bits_both) .none kV21 dc21 pm21 an21 cd21 ct21), sl21⟩) (c21 : PySem.W.codeIn K cd21 "bits_both" = true) (k21 : PySem.W.keepIn K (.ref f21) = true)
    (a22 : PySem.W.nsIn K mainGlobals "bits_any" = some (some (.ref f22))) (l22 : K.lookup f22 = some ⟨oc22, od22, .func (PySem.W.fnOf "bits_any" "bits_any" (defArgs s_bits_any) (defBody s_bits_any) (defScope s_bits_any) .none kV22 dc22 pm22 an22 cd22 ct22), sl22⟩) (c22 : PySem.W.codeIn K cd22 "bits_any" = true) (k22 : PySem.W.keepIn K (.ref f22) = true)
    (a23 : PySem.W.nsIn K mainGlobals "bits_unlike" = some (some (.ref f23))) (l23 : K.lookup f23 = some ⟨oc23, od23, .func (PySem.W.fnOf "bits_unlike" "bits_unlike" (defArgs s_bits_unlike) (defBody s_bits_unlike) (defScope s_bits_unlike) .none kV23 dc23 pm23 an23 cd23 ct23), sl23⟩) (c23 : PySem.W.codeIn K cd23 "bits_unlike" = true) (k23 : PySem.W.keepIn K (.ref f23) = true)
    (a24 : PySem.W.nsIn K mainGlobals "contrary" = some (some (.ref f24))) (l24 : K.lookup f24 = some ⟨oc24, od24, .func (PySem.W.fnOf "contrary" "contrary" (defArgs s_contrary) (defBody s_contrary) (defScope s_contrary) .none kV24 dc24 pm24 an24 cd24 ct24), sl24⟩) (c24 : PySem.W.codeIn K cd24 "contrary" = true) (k24 : PySem.W.keepIn K (.ref f24) = true)
    (a25 : PySem.W.nsIn K mainGlobals "turned_bits" = some (some (.ref f25))) (l25 : K.lookup f25 = some ⟨oc25, od25, .func (PySem.W.fnOf "turned_bits" "turned_bits" (defArgs s_turned_bits) (defBody s_turned_bits) (defScope s_turned_bits) .none kV25 dc25 pm25 an25 cd25 ct25), sl25⟩) (c25 : PySem.W.codeIn K cd25 "turned_bits" = true) (k25 : PySem.W.keepIn K (.ref f25) = true)
    (a26 : PySem.W.findIn K (.ref C_State) "__init__" = some (some (.ref f26))) (i26 : PySem.W.isFn K (.ref f26) = true) (l26 : K.lookup f26 = some ⟨oc26, od26, .func (PySem.W.fnOf "__init__" "State.__init__" (defArgs s_State___init__) (defBody s_State___init__) (defScope s_State___init__) .none kV26 dc26 pm26 an26 cd26 ct26), sl26⟩) (c26 : PySem.W.codeIn K cd26 "State.__init__" = true) (k26 : PySem.W.keepIn K (.ref f26) = true)
    (a27 : PySem.W.findIn K (.ref C_State) "cell" = some (some (.ref f27))) (i27 : PySem.W.isFn K (.ref f27) = true) (l27 : K.lookup f27 = some ⟨oc27, od27, .func (PySem.W.fnOf "cell" "State.cell" (defArgs s_State_cell) (defBody s_State_cell) (defScope s_State_cell) .none kV27 dc27 pm27 an27 cd27 ct27), sl27⟩) (c27 : PySem.W.codeIn K cd27 "State.cell" = true) (k27 : PySem.W.keepIn K (.ref f27) = true)
    (a28 : PySem.W.findIn K (.ref C_State) "put" = some (some (.ref f28))) (i28 : PySem.W.isFn K (.ref f28) = true) (l28 : K.lookup f28 = some ⟨oc28, od28, .func (PySem.W.fnOf "put" "State.put" (defArgs s_State_put) (defBody s_State_put) (defScope s_State_put) .none kV28 dc28 pm28 an28 cd28 ct28), sl28⟩) (c28 : PySem.W.codeIn K cd28 "State.put" = true) (k28 : PySem.W.keepIn K (.ref f28) = true)
    (a29 : PySem.W.findIn K (.ref C_State) "word" = some (some (.ref f29))) (i29 : PySem.W.isFn K (.ref f29) = true) (l29 : K.lookup f29 = some ⟨oc29, od29, .func (PySem.W.fnOf "word" "State.word" (defArgs s_State_word) (defBody s_State_word) (defScope s_State_word) .none kV29 dc29 pm29 an29 cd29 ct29), sl29⟩) (c29 : PySem.W.codeIn K cd29 "State.word" = true) (k29 : PySem.W.keepIn K (.ref f29) = true)
    (a30 : PySem.W.findIn K (.ref C_State) "give" = some (some (.ref f30))) (i30 : PySem.W.isFn K (.ref f30) = true) (l30 : K.lookup f30 = some ⟨oc30, od30, .func (PySem.W.fnOf "give" "State.give" (defArgs s_State_give) (defBody s_State_give) (defScope s_State_give) .none kV30 dc30 pm30 an30 cd30 ct30), sl30⟩) (c30 : PySem.W.codeIn K cd30 "State.give" = true) (k30 : PySem.W.keepIn K (.ref f30) = true)
    (a31 : PySem.W.findIn K (.ref C_State) "copied" = some (some (.ref f31))) (i31 : PySem.W.isFn K (.ref f31) = true) (l31 : K.lookup f31 = some ⟨oc31, od31, .func (PySem.W.fnOf "copied" "State.copied" (defArgs s_State_copied) (defBody s_State_copied) (defScope s_State_copied) .none kV31 dc31 pm31 an31 cd31 ct31), sl31⟩) (c31 : PySem.W.codeIn K cd31 "State.copied" = true) (k31 : PySem.W.keepIn K (.ref f31) = true)
    (a32 : PySem.W.findIn K (.ref C_State) "__eq__" = some (some (.ref f32))) (i32 : PySem.W.isFn K (.ref f32) = true) (l32 : K.lookup f32 = some ⟨oc32, od32, .func (PySem.W.fnOf "__eq__" "State.__eq__" (defArgs s_State___eq__) (defBody s_State___eq__) (defScope s_State___eq__) .none kV32 dc32 pm32 an32 cd32 ct32), sl32⟩) (c32 : PySem.W.codeIn K cd32 "State.__eq__" = true) (k32 : PySem.W.keepIn K (.ref f32) = true)
    (a33 : PySem.W.nsIn K mainGlobals "part_word" = some (some (.ref f33))) (l33 : K.lookup f33 = some ⟨oc33, od33, .func (PySem.W.fnOf "part_word" "part_word" (defArgs s_part_word) (defBody s_part_word) (defScope s_part_word) .none kV33 dc33 pm33 an33 cd33 ct33), sl33⟩) (c33 : PySem.W.codeIn K cd33 "part_word" = true) (k33 : PySem.W.keepIn K (.ref f33) = true)
    (a34 : PySem.W.nsIn K mainGlobals "deed_done" = some (some (.ref f34))) (l34 : K.lookup f34 = some ⟨oc34, od34, .func (PySem.W.fnOf "deed_done" "deed_done" (defArgs s_deed_done) (defBody s_deed_done) (defScope s_deed_done) .none kV34 dc34 pm34 an34 cd34 ct34), sl34⟩) (c34 : PySem.W.codeIn K cd34 "deed_done" = true) (k34 : PySem.W.keepIn K (.ref f34) = true)
    (a35 : PySem.W.nsIn K mainGlobals "do" = some (some (.ref f35))) (l35 : K.lookup f35 = some ⟨oc35, od35, .func (PySem.W.fnOf "do" "do" (defArgs s_do) (defBody s_do) (defScope s_do) .none kV35 dc35 pm35 an35 cd35 ct35), sl35⟩) (c35 : PySem.W.codeIn K cd35 "do" = true) (k35 : PySem.W.keepIn K (.ref f35) = true)
    (a36 : PySem.W.nsIn K mainGlobals "_law_reckoned" = some (some (.ref f36))) (l36 : K.lookup f36 = some ⟨oc36, od36, .func (PySem.W.fnOf "_law_reckoned" "_law_reckoned" (defArgs s_reckoned) (defBody s_reckoned) (defScope s_reckoned) .none kV36 dc36 pm36 an36 cd36 ct36), sl36⟩) (c36 : PySem.W.codeIn K cd36 "_law_reckoned" = true) (k36 : PySem.W.keepIn K (.ref f36) = true)
    (a37 : PySem.W.nsIn K mainGlobals "_law_state" = some (some (.ref f37))) (l37 : K.lookup f37 = some ⟨oc37, od37, .func (PySem.W.fnOf "_law_state" "_law_state" (defArgs s_state) (defBody s_state) (defScope s_state) .none kV37 dc37 pm37 an37 cd37 ct37), sl37⟩) (c37 : PySem.W.codeIn K cd37 "_law_state" = true) (k37 : PySem.W.keepIn K (.ref f37) = true)
    (a38 : PySem.W.nsIn K mainGlobals "_law_worths" = some (some (.ref f38))) (l38 : K.lookup f38 = some ⟨oc38, od38, .func (PySem.W.fnOf "_law_worths" "_law_worths" (defArgs s_worths) (defBody s_worths) (defScope s_worths) .none kV38 dc38 pm38 an38 cd38 ct38), sl38⟩) (c38 : PySem.W.codeIn K cd38 "_law_worths" = true) (k38 : PySem.W.keepIn K (.ref f38) = true)
    (a39 : PySem.W.nsIn K mainGlobals "_law_beneath" = some (some (.ref f39))) (l39 : K.lookup f39 = some ⟨oc39, od39, .func (PySem.W.fnOf "_law_beneath" "_law_beneath" (defArgs s_beneath) (defBody s_beneath) (defScope s_beneath) .none kV39 dc39 pm39 an39 cd39 ct39), sl39⟩) (c39 : PySem.W.codeIn K cd39 "_law_beneath" = true) (k39 : PySem.W.keepIn K (.ref f39) = true)
    (a40 : PySem.W.nsIn K mainGlobals "_law_pattern_word" = some (some (.ref f40))) (l40 : K.lookup f40 = some ⟨oc40, od40, .func (PySem.W.fnOf "_law_pattern_word" "_law_pattern_word" (defArgs s_pattern_word) (defBody s_pattern_word) (defScope s_pattern_word) .none kV40 dc40 pm40 an40 cd40 ct40), sl40⟩) (c40 : PySem.W.codeIn K cd40 "_law_pattern_word" = true) (k40 : PySem.W.keepIn K (.ref f40) = true)
    (a41 : PySem.W.nsIn K mainGlobals "_law_deed_right" = some (some (.ref f41))) (l41 : K.lookup f41 = some ⟨oc41, od41, .func (PySem.W.fnOf "_law_deed_right" "_law_deed_right" (defArgs s_deed_right) (defBody s_deed_right) (defScope s_deed_right) .none kV41 dc41 pm41 an41 cd41 ct41), sl41⟩) (c41 : PySem.W.codeIn K cd41 "_law_deed_right" = true) (k41 : PySem.W.keepIn K (.ref f41) = true)
    (a42 : PySem.W.nsIn K mainGlobals "law" = some (some (.ref f42))) (l42 : K.lookup f42 = some ⟨oc42, od42, .func (PySem.W.fnOf "law" "law" (defArgs s_law) (defBody s_law) (defScope s_law) .none kV42 dc42 pm42 an42 cd42 ct42), sl42⟩) (c42 : PySem.W.codeIn K cd42 "law" = true) (k42 : PySem.W.keepIn K (.ref f42) = true)
    (b_abs : PySem.W.nsIn K mainGlobals "abs" = some none)
    (b_len : PySem.W.nsIn K mainGlobals "len" = some none)
    (b_max : PySem.W.nsIn K mainGlobals "max" = some none)
    (b_min : PySem.W.nsIn K mainGlobals "min" = some none)
    (b_int : PySem.W.nsIn K mainGlobals "int" = some none)
    (b_list : PySem.W.nsIn K mainGlobals "list" = some none)
    (b_tuple : PySem.W.nsIn K mainGlobals "tuple" = some none)
    (b_range : PySem.W.nsIn K mainGlobals "range" = some none)
    (b_zip : PySem.W.nsIn K mainGlobals "zip" = some none)
    (b_isinstance : PySem.W.nsIn K mainGlobals "isinstance" = some none)
    (b_all : PySem.W.nsIn K mainGlobals "all" = some none)
    (b_str : PySem.W.nsIn K mainGlobals "str" = some none)
    (b_dict : PySem.W.nsIn K mainGlobals "dict" = some none)
    {t_CELLS : _} (v_CELLS : PySem.W.nsIn K mainGlobals "CELLS" = some (some (.int 64 t_CELLS)))
    {ad_DEEDS : Addr} (v_DEEDS : PySem.W.nsIn K mainGlobals "DEEDS" = some (some (.ref ad_DEEDS)))
    {od_DEEDS : Option Addr} {its_DEEDS : Array Value} {n_DEEDS : Nat} {sl_DEEDS : Array (Option Value)} (wl_DEEDS : K.lookup ad_DEEDS = some ⟨.type "tuple", od_DEEDS, .seq its_DEEDS n_DEEDS, sl_DEEDS⟩) (wq_DEEDS : its_DEEDS.toList.map absV = (wr_DEEDS.map V.str).map some)
    {t_MOST_WORD : _} (v_MOST_WORD : PySem.W.nsIn K mainGlobals "MOST_WORD" = some (some (.int 65535 t_MOST_WORD)))
    {t_WORDS : _} (v_WORDS : PySem.W.nsIn K mainGlobals "WORDS" = some (some (.int 65536 t_WORDS)))
    {ad_OF_ONE : Addr} (v_OF_ONE : PySem.W.nsIn K mainGlobals "OF_ONE" = some (some (.ref ad_OF_ONE)))
    {es_OF_ONE : Array DictEntry} {n_OF_ONE : Nat} (wl_OF_ONE : K.lookup ad_OF_ONE = some ⟨.type "dict", none, .dict es_OF_ONE n_OF_ONE, #[]⟩) (wk_OF_ONE : PySem.W.KeysLit w.params es_OF_ONE.toList) (ws_OF_ONE : (ad_OF_ONE == sysModules) = false) (wq_OF_ONE : es_OF_ONE.toList.map kv = ([("neg", f24), ("not", f25)] : List (Str × Addr)).map fun p => (some p.1, some (V.ref p.2))) (wn_OF_ONE : ([f24, f25] : List Addr).Nodup)
    {ad_OF_TWO : Addr} (v_OF_TWO : PySem.W.nsIn K mainGlobals "OF_TWO" = some (some (.ref ad_OF_TWO)))
    {es_OF_TWO : Array DictEntry} {n_OF_TWO : Nat} (wl_OF_TWO : K.lookup ad_OF_TWO = some ⟨.type "dict", none, .dict es_OF_TWO n_OF_TWO, #[]⟩) (wk_OF_TWO : PySem.W.KeysLit w.params es_OF_TWO.toList) (ws_OF_TWO : (ad_OF_TWO == sysModules) = false) (wq_OF_TWO : es_OF_TWO.toList.map kv = ([("add", f19), ("sub", f18), ("mul", f20), ("and", f21), ("or", f22), ("xor", f23)] : List (Str × Addr)).map fun p => (some p.1, some (V.ref p.2))) (wn_OF_TWO : ([f19, f18, f20, f21, f22, f23] : List Addr).Nodup)
    : ∃ fd : FuncData, (∀ (s : Shared) (v : Value), BindsTo s fd ⟨[v], []⟩ [("_law_script", v)]) ∧ ∀ base : Heap, K.In base → base.Ns mainGlobals mg → FnOk l.prog w K mg base CX0 12 fa fd ["_law_script"] (liftSp (spLaw K)) := by
  have e := hfa.symm.trans (PySem.W.mg_of X G a42)
  cases e
  have B : Bln mg := ⟨PySem.W.mg_none_of X G b_abs, PySem.W.mg_none_of X G b_len, PySem.W.mg_none_of X G b_max, PySem.W.mg_none_of X G b_min, PySem.W.mg_none_of X G b_int, PySem.W.mg_none_of X G b_list, PySem.W.mg_none_of X G b_tuple, PySem.W.mg_none_of X G b_range, PySem.W.mg_none_of X G b_zip, PySem.W.mg_none_of X G b_isinstance, PySem.W.mg_none_of X G b_all, PySem.W.mg_none_of X G b_str, PySem.W.mg_none_of X G b_dict⟩
  have TT_State : Tc_State K mg C_State := ⟨⟨pg_State, hd_State, po_State, sa_State⟩, PySem.W.mg_of X G aC_State, nA_State_cells, nA_State_named, ⟨⟨pg_State, hd_State, po_State, sa_State⟩, e1_State, e2_State, e3_State, e4_State, e5_State⟩, e6_State⟩
  have GG : Gln w K mg := ⟨⟨_, PySem.W.mg_of X G v_CELLS⟩, ⟨_, PySem.W.mg_of X G v_DEEDS, wrT_mk wl_DEEDS wq_DEEDS (by decide)⟩, ⟨_, PySem.W.mg_of X G v_MOST_WORD⟩, ⟨_, PySem.W.mg_of X G v_WORDS⟩⟩
  have F1 := fun_mk (st := s_bag) l1 c1 k1
  have B1 := F1.binds (ps := ["_law_script", "_law_at"]) fun _ _ _ _ _ _ us hl => match us, hl with | [_, _], _ => rfl
  have F2 := fun_mk (st := s_take) l2 c2 k2
  have B2 := F2.binds (ps := ["_law_bag_here", "_law_many"]) fun _ _ _ _ _ _ us hl => match us, hl with | [_, _], _ => rfl
  have F3 := fun_mk (st := s_word) l3 c3 k3
  have B3 := F3.binds (ps := ["_law_bag_here"]) fun _ _ _ _ _ _ us hl => match us, hl with | [_], _ => rfl
  have F4 := fun_mk (st := s_is_fit) l4 c4 k4
  have B4 := F4.binds (ps := ["pattern", "node"]) fun _ _ _ _ _ _ us hl => match us, hl with | [_, _], _ => rfl
  have F5 := fun_mk (st := s_matched) l5 c5 k5
  have B5 := F5.binds (ps := ["pattern", "web", "at"]) fun _ _ _ _ _ _ us hl => match us, hl with | [_, _, _], _ => rfl
  have F6 := fun_mk (st := s_fits) l6 c6 k6
  have B6 := F6.binds (ps := ["machine", "web", "at"]) fun _ _ _ _ _ _ us hl => match us, hl with | [_, _, _], _ => rfl
  have F7 := fun_mk (st := s_name) l7 c7 k7
  have B7 := F7.binds (ps := ["_law_bag_here"]) fun _ _ _ _ _ _ us hl => match us, hl with | [_], _ => rfl
  have F8 := fun_mk (st := s_part) l8 c8 k8
  have B8 := F8.binds (ps := ["_law_bag_here", "_law_found", "_law_loose", "_law_once"]) fun _ _ _ _ _ _ us hl => match us, hl with | [_, _, _, _], _ => rfl
  have F9 := fun_mk (st := s_web) l9 c9 k9
  have B9 := F9.binds (ps := ["_law_bag_here", "_law_many", "_law_once"]) fun _ _ _ _ _ _ us hl => match us, hl with | [_, _, _], _ => rfl
  have F10 := fun_mk (st := s_kind) l10 c10 k10
  have B10 := F10.binds (ps := ["_law_bag_here"]) fun _ _ _ _ _ _ us hl => match us, hl with | [_], _ => rfl
  have F11 := fun_mk (st := s_kinds) l11 c11 k11
  have B11 := F11.binds (ps := ["_law_bag_here"]) fun _ _ _ _ _ _ us hl => match us, hl with | [_], _ => rfl
  have F12 := fun_mk (st := s_drawn) l12 c12 k12
  have B12 := F12.binds (ps := ["_law_bag_here", "_law_kinds_here", "_law_deep", "_law_left"]) fun _ _ _ _ _ _ us hl => match us, hl with | [_, _, _, _], _ => rfl
  have F13 := fun_mk (st := s_pattern) l13 c13 k13
  have B13 := F13.binds (ps := ["_law_bag_here", "_law_kinds_here"]) fun _ _ _ _ _ _ us hl => match us, hl with | [_, _], _ => rfl
  have F14 := fun_mk (st := s_titles) l14 c14 k14
  have B14 := F14.binds (ps := ["_law_bag_here", "_law_many"]) fun _ _ _ _ _ _ us hl => match us, hl with | [_, _], _ => rfl
  have F15 := fun_mk (st := s_rule) l15 c15 k15
  have B15 := F15.binds (ps := ["_law_bag_here", "_law_name_here", "_law_kinds_here", "_law_pattern_here"]) fun _ _ _ _ _ _ us hl => match us, hl with | [_, _, _, _], _ => rfl
  have F16 := fun_mk (st := s_cut) l16 c16 k16
  have B16 := F16.binds (ps := ["_law_bag_here", "_law_web_here", "_law_at", "_law_kinds_here", "_law_deep", "_law_left"]) fun _ _ _ _ _ _ us hl => match us, hl with | [_, _, _, _, _, _], _ => rfl
  have F17 := fun_mk (st := s_fitting) l17 c17 k17
  have B17 := F17.binds (ps := ["_law_bag_here", "_law_web_here", "_law_many"]) fun _ _ _ _ _ _ us hl => match us, hl with | [_, _, _], _ => rfl
  have F18 := fun_mk (st := s_taken_less) l18 c18 k18
  have B18 := F18.binds (ps := ["one", "other"]) fun _ _ _ _ _ _ us hl => match us, hl with | [_, _], _ => rfl
  have F19 := fun_mk (st := s_together) l19 c19 k19
  have B19 := F19.binds (ps := ["one", "other"]) fun _ _ _ _ _ _ us hl => match us, hl with | [_, _], _ => rfl
  have F20 := fun_mk (st := s_times) l20 c20 k20
  have B20 := F20.binds (ps := ["one", "other"]) fun _ _ _ _ _ _ us hl => match us, hl with | [_, _], _ => rfl
  have F21 := fun_mk (st := s_bits_both) l21 c21 k21
  have B21 := F21.binds (ps := ["one", "other"]) fun _ _ _ _ _ _ us hl => match us, hl with | [_, _], _ => rfl
  have F22 := fun_mk (st := s_bits_any) l22 c22 k22
  have B22 := F22.binds (ps := ["one", "other"]) fun _ _ _ _ _ _ us hl => match us, hl with | [_, _], _ => rfl
  have F23 := fun_mk (st := s_bits_unlike) l23 c23 k23
  have B23 := F23.binds (ps := ["one", "other"]) fun _ _ _ _ _ _ us hl => match us, hl with | [_, _], _ => rfl
  have F24 := fun_mk (st := s_contrary) l24 c24 k24
  have B24 := F24.binds (ps := ["one"]) fun _ _ _ _ _ _ us hl => match us, hl with | [_], _ => rfl
  have F25 := fun_mk (st := s_turned_bits) l25 c25 k25
  have B25 := F25.binds (ps := ["one"]) fun _ _ _ _ _ _ us hl => match us, hl with | [_], _ => rfl
  have F26 := fun_mk (st := s_State___init__) l26 c26 k26
  have B26 := F26.binds (ps := ["self"]) fun _ _ _ _ _ _ us hl => match us, hl with | [_], _ => rfl
  have F27 := fun_mk (st := s_State_cell) l27 c27 k27
  have B27 := F27.binds (ps := ["self", "at"]) fun _ _ _ _ _ _ us hl => match us, hl with | [_, _], _ => rfl
  have F28 := fun_mk (st := s_State_put) l28 c28 k28
  have B28 := F28.binds (ps := ["self", "at", "word"]) fun _ _ _ _ _ _ us hl => match us, hl with | [_, _, _], _ => rfl
  have F29 := fun_mk (st := s_State_word) l29 c29 k29
  have B29 := F29.binds (ps := ["self", "name"]) fun _ _ _ _ _ _ us hl => match us, hl with | [_, _], _ => rfl
  have F30 := fun_mk (st := s_State_give) l30 c30 k30
  have B30 := F30.binds (ps := ["self", "name", "word"]) fun _ _ _ _ _ _ us hl => match us, hl with | [_, _, _], _ => rfl
  have F31 := fun_mk (st := s_State_copied) l31 c31 k31
  have B31 := F31.binds (ps := ["self"]) fun _ _ _ _ _ _ us hl => match us, hl with | [_], _ => rfl
  have F32 := fun_mk (st := s_State___eq__) l32 c32 k32
  have B32 := F32.binds (ps := ["self", "other"]) fun _ _ _ _ _ _ us hl => match us, hl with | [_, _], _ => rfl
  have F33 := fun_mk (st := s_part_word) l33 c33 k33
  have B33 := F33.binds (ps := ["op", "mark", "words", "state"]) fun _ _ _ _ _ _ us hl => match us, hl with | [_, _, _, _], _ => rfl
  have F34 := fun_mk (st := s_deed_done) l34 c34 k34
  have B34 := F34.binds (ps := ["op", "mark", "words", "state"]) fun _ _ _ _ _ _ us hl => match us, hl with | [_, _, _, _], _ => rfl
  have F35 := fun_mk (st := s_do) l35 c35 k35
  have B35 := F35.binds (ps := ["web", "state"]) fun _ _ _ _ _ _ us hl => match us, hl with | [_, _], _ => rfl
  have F36 := fun_mk (st := s_reckoned) l36 c36 k36
  have B36 := F36.binds (ps := ["_law_op", "_law_one", "_law_other"]) fun _ _ _ _ _ _ us hl => match us, hl with | [_, _, _], _ => rfl
  have F37 := fun_mk (st := s_state) l37 c37 k37
  have B37 := F37.binds (ps := ["_law_bag_here"]) fun _ _ _ _ _ _ us hl => match us, hl with | [_], _ => rfl
  have F38 := fun_mk (st := s_worths) l38 c38 k38
  have B38 := F38.binds (ps := ["_law_web_here", "_law_cells", "_law_names"]) fun _ _ _ _ _ _ us hl => match us, hl with | [_, _, _], _ => rfl
  have F39 := fun_mk (st := s_beneath) l39 c39 k39
  have B39 := F39.binds (ps := ["_law_web_here", "_law_at"]) fun _ _ _ _ _ _ us hl => match us, hl with | [_, _], _ => rfl
  have F40 := fun_mk (st := s_pattern_word) l40 c40 k40
  have B40 := F40.binds (ps := ["_law_pattern_here", "_law_needs", "_law_marks", "_law_cells", "_law_names"]) fun _ _ _ _ _ _ us hl => match us, hl with | [_, _, _, _, _], _ => rfl
  have F41 := fun_mk (st := s_deed_right) l41 c41 k41
  have B41 := F41.binds (ps := ["_law_web_here", "_law_state_here", "_law_pattern_here", "_law_needs", "_law_marks", "_law_cells", "_law_names"]) fun _ _ _ _ _ _ us hl => match us, hl with | [_, _, _, _, _, _, _], _ => rfl
  have F42 := fun_mk (st := s_law) l42 c42 k42
  refine ⟨PySem.W.fnOf "law" "law" (defArgs s_law) (defBody s_law) (defScope s_law) .none kV42 dc42 pm42 an42 cd42 ct42, fun s v => .of_eq rfl, fun base _ _ => ?_⟩
  have P1 := ok_bag (P := l.prog) (w := w) (base := base) F1 B GG 
  have P2 := ok_take (P := l.prog) (w := w) (base := base) F2 B GG 
  have P3 := ok_word (P := l.prog) (w := w) (base := base) F3 B GG P2 (PySem.W.mg_of X G a2) k2 B2
  have P4 := ok_is_fit (P := l.prog) (w := w) (base := base) F4 B GG 
  have P5 := ok_matched (P := l.prog) (w := w) (base := base) F5 B GG (PySem.W.mg_of X G a5) k5 B5 P4 (PySem.W.mg_of X G a4) k4 B4
  have P6 := ok_fits (P := l.prog) (w := w) (base := base) F6 B GG (P5 8) (PySem.W.mg_of X G a5) k5 B5
  have P7 := ok_name (P := l.prog) (w := w) (base := base) F7 B GG P2 (PySem.W.mg_of X G a2) k2 B2
  have P8 := ok_part (P := l.prog) (w := w) (base := base) F8 B GG P2 (PySem.W.mg_of X G a2) k2 B2 P3 (PySem.W.mg_of X G a3) k3 B3 P7 (PySem.W.mg_of X G a7) k7 B7
  have P9 := ok_web (P := l.prog) (w := w) (base := base) F9 B GG P8 (PySem.W.mg_of X G a8) k8 B8 P2 (PySem.W.mg_of X G a2) k2 B2 P7 (PySem.W.mg_of X G a7) k7 B7
  have P10 := ok_kind (P := l.prog) (w := w) (base := base) F10 B GG P2 (PySem.W.mg_of X G a2) k2 B2 P7 (PySem.W.mg_of X G a7) k7 B7
  have P11 := ok_kinds (P := l.prog) (w := w) (base := base) F11 B GG P10 (PySem.W.mg_of X G a10) k10 B10 P2 (PySem.W.mg_of X G a2) k2 B2
  have P12 := ok_drawn (P := l.prog) (w := w) (base := base) F12 B GG (PySem.W.mg_of X G a12) k12 B12 P2 (PySem.W.mg_of X G a2) k2 B2 P3 (PySem.W.mg_of X G a3) k3 B3
  have P13 := ok_pattern (P := l.prog) (w := w) (base := base) F13 B GG P2 (PySem.W.mg_of X G a2) k2 B2 (P12 6) (PySem.W.mg_of X G a12) k12 B12
  have P14 := ok_titles (P := l.prog) (w := w) (base := base) F14 B GG P7 (PySem.W.mg_of X G a7) k7 B7
  have P15 := ok_rule (P := l.prog) (w := w) (base := base) F15 B GG P2 (PySem.W.mg_of X G a2) k2 B2
  have P16 := ok_cut (P := l.prog) (w := w) (base := base) F16 B GG (PySem.W.mg_of X G a16) k16 B16 P2 (PySem.W.mg_of X G a2) k2 B2
  have P17 := ok_fitting (P := l.prog) (w := w) (base := base) F17 B GG P14 (PySem.W.mg_of X G a14) k14 B14 P11 (PySem.W.mg_of X G a11) k11 B11 (P16 6) (PySem.W.mg_of X G a16) k16 B16 P2 (PySem.W.mg_of X G a2) k2 B2 P13 (PySem.W.mg_of X G a13) k13 B13 P15 (PySem.W.mg_of X G a15) k15 B15
  have P18 := ok_taken_less (P := l.prog) (w := w) (base := base) F18 B GG 
  have P19 := ok_together (P := l.prog) (w := w) (base := base) F19 B GG 
  have P20 := ok_times (P := l.prog) (w := w) (base := base) F20 B GG 
  have P21 := ok_bits_both (P := l.prog) (w := w) (base := base) F21 B GG 
  have P22 := ok_bits_any (P := l.prog) (w := w) (base := base) F22 B GG 
  have P23 := ok_bits_unlike (P := l.prog) (w := w) (base := base) F23 B GG 
  have P24 := ok_contrary (P := l.prog) (w := w) (base := base) F24 B GG 
  have P25 := ok_turned_bits (P := l.prog) (w := w) (base := base) F25 B GG 
  have P26 := ok_State___init__ (P := l.prog) (w := w) (base := base) F26 B GG TT_State 
  have P27 := ok_State_cell (P := l.prog) (w := w) (base := base) F27 B GG TT_State 
  have P28 := ok_State_put (P := l.prog) (w := w) (base := base) F28 B GG TT_State 
  have P29 := ok_State_word (P := l.prog) (w := w) (base := base) F29 B GG TT_State 
  have P30 := ok_State_give (P := l.prog) (w := w) (base := base) F30 B GG TT_State 
  have P31 := ok_State_copied (P := l.prog) (w := w) (base := base) F31 B GG TT_State P26 ⟨mk_State, a26, i26, kc_State⟩ k26 B26
  have P32 := ok_State___eq__ (P := l.prog) (w := w) (base := base) F32 B GG TT_State 
  have P33 := ok_part_word (P := l.prog) (w := w) (base := base) F33 B GG TT_State P29 ⟨a29, i29, k29⟩ k29 B29 P27 ⟨a27, i27, k27⟩ k27 B27 P24 (PySem.W.mg_of X G a24) k24 B24 P25 (PySem.W.mg_of X G a25) k25 B25 P19 (PySem.W.mg_of X G a19) k19 B19 P18 (PySem.W.mg_of X G a18) k18 B18 P20 (PySem.W.mg_of X G a20) k20 B20 P21 (PySem.W.mg_of X G a21) k21 B21 P22 (PySem.W.mg_of X G a22) k22 B22 P23 (PySem.W.mg_of X G a23) k23 B23 ⟨_, PySem.W.mg_of X G v_OF_ONE, wrD_mk wl_OF_ONE wk_OF_ONE ws_OF_ONE wq_OF_ONE⟩ wn_OF_ONE ⟨_, PySem.W.mg_of X G v_OF_TWO, wrD_mk wl_OF_TWO wk_OF_TWO ws_OF_TWO wq_OF_TWO⟩ wn_OF_TWO
  have P34 := ok_deed_done (P := l.prog) (w := w) (base := base) F34 B GG TT_State P28 ⟨a28, i28, k28⟩ k28 B28 P30 ⟨a30, i30, k30⟩ k30 B30
  have P35 := ok_do (P := l.prog) (w := w) (base := base) F35 B GG TT_State P31 ⟨a31, i31, k31⟩ k31 B31 P34 (PySem.W.mg_of X G a34) k34 B34 P33 (PySem.W.mg_of X G a33) k33 B33
  have P36 := ok_reckoned (P := l.prog) (w := w) (base := base) F36 B GG 
  have P37 := ok_state (P := l.prog) (w := w) (base := base) F37 B GG TT_State P26 ⟨mk_State, a26, i26, kc_State⟩ k26 B26 P28 ⟨a28, i28, k28⟩ k28 B28 P30 ⟨a30, i30, k30⟩ k30 B30 P2 (PySem.W.mg_of X G a2) k2 B2 P3 (PySem.W.mg_of X G a3) k3 B3 P7 (PySem.W.mg_of X G a7) k7 B7
  have P38 := ok_worths (P := l.prog) (w := w) (base := base) F38 B GG P36 (PySem.W.mg_of X G a36) k36 B36
  have P39 := ok_beneath (P := l.prog) (w := w) (base := base) F39 B GG 
  have P40 := ok_pattern_word (P := l.prog) (w := w) (base := base) F40 B GG (PySem.W.mg_of X G a40) k40 B40 P36 (PySem.W.mg_of X G a36) k36 B36
  have P41 := ok_deed_right (P := l.prog) (w := w) (base := base) F41 B GG TT_State P32 ⟨a32, i32, k32⟩ k32 B32 P35 (PySem.W.mg_of X G a35) k35 B35 P30 ⟨a30, i30, k30⟩ k30 B30 (P40 8) (PySem.W.mg_of X G a40) k40 B40 P28 ⟨a28, i28, k28⟩ k28 B28
  exact ok_law (P := l.prog) (w := w) (base := base) F42 B GG TT_State P37 (PySem.W.mg_of X G a37) k37 B37 P9 (PySem.W.mg_of X G a9) k9 B9 P17 (PySem.W.mg_of X G a17) k17 B17 P1 (PySem.W.mg_of X G a1) k1 B1 P39 (PySem.W.mg_of X G a39) k39 B39 P6 (PySem.W.mg_of X G a6) k6 B6 P2 (PySem.W.mg_of X G a2) k2 B2 P38 (PySem.W.mg_of X G a38) k38 B38 P41 (PySem.W.mg_of X G a41) k41 B41 (P40 8) (PySem.W.mg_of X G a40) k40 B40
theorem walk {l : PySem.W.OpenLaw} {q : Program} {loose : List Str} {XP : (Str → Option Value) → Heap → Prop} {YP : World → Heap → Prop} {d : DefRec} {K : Params → PySem.W.Frag} (hn : l.most = some 63) (hdf : d.params.defaults = [])
    (hY : ∀ (w : World) (h : Heap), YP w h → (K w.params).In h)
    (F : ∀ (w : World) (mg : Str → Option Value) (fa : Addr) (h : Heap), (K w.params).In h → h.Ns mainGlobals mg → mg d.name = some (.ref fa) →
      ∃ fd : FuncData, (∀ (s : Shared) (u : Value), BindsTo s fd ⟨[u], []⟩ [("_law_script", u)]) ∧ ∀ base : Heap, (K w.params).In base → base.Ns mainGlobals mg → FnOk l.prog w (K w.params) mg base CX0 12 fa fd ["_law_script"] (liftSp (spLaw (K w.params)))) :
    PySem.W.WalkO q loose XP YP l.row.toRowW d [] (fun f vs => PySem.call f vs) :=
  L2.walk_ofK (n := 63) (k := 12) (x := "_law_script") (CX := CX0) (sp := fun K => liftSp (spLaw K)) hn (by decide) hdf ⟨rfl, by decide, by decide⟩ hY F (fun _ _ a ns hl _ hS => law_start hl hS) fun _ _ _ _ z => z
end K17
open PySem PySem.W PyProof.Rows
set_option maxRecDepth 100000 in
set_option maxHeartbeats 0 in
theorem PySem.Challenge.cw_coverrows_k17_whole_fits_mean_the_node_holds : PySem.Challenge.rw_coverrows_k17_whole_fits_mean_the_node.Holds := by
  w_on; o_law; k_head; (case hw => w_witness2)
  k_fill
  refine K17.walk (l := PySem.Challenge.rw_coverrows_k17_whole_fits_mean_the_node) rfl rfl (fun w h Y => PySem.W.kIn_of Y) ?F
  case F =>
    intro w mg fa h KX G hmg
    refine' K17.all_mk KX G hmg ?aC_State ?pg_State ?hd_State ?po_State ?sa_State ?mk_State ?kc_State ?nA_State_cells ?nA_State_named ?e1_State ?e2_State ?e3_State ?e4_State ?e5_State ?e6_State ?a1 ?l1 ?c1 ?k1 ?a2 ?l2 ?c2 ?k2 ?a3 ?l3 ?c3 ?k3 ?a4 ?l4 ?c4 ?k4 ?a5 ?l5 ?c5 ?k5 ?a6 ?l6 ?c6 ?k6 ?a7 ?l7 ?c7 ?k7 ?a8 ?l8 ?c8 ?k8 ?a9 ?l9 ?c9 ?k9 ?a10 ?l10 ?c10 ?k10 ?a11 ?l11 ?c11 ?k11 ?a12 ?l12 ?c12 ?k12 ?a13 ?l13 ?c13 ?k13 ?a14 ?l14 ?c14 ?k14 ?a15 ?l15 ?c15 ?k15 ?a16 ?l16 ?c16 ?k16 ?a17 ?l17 ?c17 ?k17 ?a18 ?l18 ?c18 ?k18 ?a19 ?l19 ?c19 ?k19 ?a20 ?l20 ?c20 ?k20 ?a21 ?l21 ?c21 ?k21 ?a22 ?l22 ?c22 ?k22 ?a23 ?l23 ?c23 ?k23 ?a24 ?l24 ?c24 ?k24 ?a25 ?l25 ?c25 ?k25 ?a26 ?i26 ?l26 ?c26 ?k26 ?a27 ?i27 ?l27 ?c27 ?k27 ?a28 ?i28 ?l28 ?c28 ?k28 ?a29 ?i29 ?l29 ?c29 ?k29 ?a30 ?i30 ?l30 ?c30 ?k30 ?a31 ?i31 ?l31 ?c31 ?k31 ?a32 ?i32 ?l32 ?c32 ?k32 ?a33 ?l33 ?c33 ?k33 ?a34 ?l34 ?c34 ?k34 ?a35 ?l35 ?c35 ?k35 ?a36 ?l36 ?c36 ?k36 ?a37 ?l37 ?c37 ?k37 ?a38 ?l38 ?c38 ?k38 ?a39 ?l39 ?c39 ?k39 ?a40 ?l40 ?c40 ?k40 ?a41 ?l41 ?c41 ?k41 ?a42 ?l42 ?c42 ?k42 ?b_abs ?b_len ?b_max ?b_min ?b_int ?b_list ?b_tuple ?b_range ?b_zip ?b_isinstance ?b_all ?b_str ?b_dict ?v_CELLS ?v_DEEDS ?wl_DEEDS ?wq_DEEDS ?v_MOST_WORD ?v_WORDS ?v_OF_ONE ?wl_OF_ONE ?wk_OF_ONE ?ws_OF_ONE ?wq_OF_ONE ?wn_OF_ONE ?v_OF_TWO ?wl_OF_TWO ?wk_OF_TWO ?ws_OF_TWO ?wq_OF_TWO ?wn_OF_TWO
    (case aC_State => k_is)
    (case pg_State => k_is)
    (case hd_State => k_is)
    (case po_State => k_is)
    (case sa_State => k_is)
    (case mk_State => k_is)
    (case kc_State => k_is)
    (case nA_State_cells => k_is)
    (case nA_State_named => k_is)
    (case e1_State => k_is)
    (case e2_State => k_is)
    (case e3_State => k_is)
    (case e4_State => k_is)
    (case e5_State => exact if_pos (beq_self_eq_true _))
    (case e6_State => k_is)
    (case a1 => k_is)
    (case l1 => k_is)
    (case c1 => k_is)
    (case k1 => k_is)
    (case a2 => k_is)
    (case l2 => k_is)
    (case c2 => k_is)
    (case k2 => k_is)
    (case a3 => k_is)
    (case l3 => k_is)
    (case c3 => k_is)
    (case k3 => k_is)
    (case a4 => k_is)
    (case l4 => k_is)
    (case c4 => k_is)
    (case k4 => k_is)
    (case a5 => k_is)
    (case l5 => k_is)
    (case c5 => k_is)
    (case k5 => k_is)
    (case a6 => k_is)
    (case l6 => k_is)
    (case c6 => k_is)
    (case k6 => k_is)
    (case a7 => k_is)
    (case l7 => k_is)
    (case c7 => k_is)
    (case k7 => k_is)
    (case a8 => k_is)
    (case l8 => k_is)
    (case c8 => k_is)
    (case k8 => k_is)
    (case a9 => k_is)
    (case l9 => k_is)
    (case c9 => k_is)
    (case k9 => k_is)
    (case a10 => k_is)
    (case l10 => k_is)
    (case c10 => k_is)
    (case k10 => k_is)
    (case a11 => k_is)
    (case l11 => k_is)
    (case c11 => k_is)
    (case k11 => k_is)
    (case a12 => k_is)
    (case l12 => k_is)
    (case c12 => k_is)
    (case k12 => k_is)
    (case a13 => k_is)
    (case l13 => k_is)
    (case c13 => k_is)
    (case k13 => k_is)
    (case a14 => k_is)
    (case l14 => k_is)
    (case c14 => k_is)
    (case k14 => k_is)
    (case a15 => k_is)
    (case l15 => k_is)
    (case c15 => k_is)
    (case k15 => k_is)
    (case a16 => k_is)
    (case l16 => k_is)
    (case c16 => k_is)
    (case k16 => k_is)
    (case a17 => k_is)
    (case l17 => k_is)
    (case c17 => k_is)
    (case k17 => k_is)
    (case a18 => k_is)
    (case l18 => k_is)
    (case c18 => k_is)
    (case k18 => k_is)
    (case a19 => k_is)
    (case l19 => k_is)
    (case c19 => k_is)
    (case k19 => k_is)
    (case a20 => k_is)
    (case l20 => k_is)
    (case c20 => k_is)
    (case k20 => k_is)
    (case a21 => k_is)
    (case l21 => k_is)
    (case c21 => k_is)
    (case k21 => k_is)
    (case a22 => k_is)
    (case l22 => k_is)
    (case c22 => k_is)
    (case k22 => k_is)
    (case a23 => k_is)
    (case l23 => k_is)
    (case c23 => k_is)
    (case k23 => k_is)
    (case a24 => k_is)
    (case l24 => k_is)
    (case c24 => k_is)
    (case k24 => k_is)
    (case a25 => k_is)
    (case l25 => k_is)
    (case c25 => k_is)
    (case k25 => k_is)
    (case a26 => k_is)
    (case i26 => k_is)
    (case l26 => k_is)
    (case c26 => k_is)
    (case k26 => k_is)
    (case a27 => k_is)
    (case i27 => k_is)
    (case l27 => k_is)
    (case c27 => k_is)
    (case k27 => k_is)
    (case a28 => k_is)
    (case i28 => k_is)
    (case l28 => k_is)
    (case c28 => k_is)
    (case k28 => k_is)
    (case a29 => k_is)
    (case i29 => k_is)
    (case l29 => k_is)
    (case c29 => k_is)
    (case k29 => k_is)
    (case a30 => k_is)
    (case i30 => k_is)
    (case l30 => k_is)
    (case c30 => k_is)
    (case k30 => k_is)
    (case a31 => k_is)
    (case i31 => k_is)
    (case l31 => k_is)
    (case c31 => k_is)
    (case k31 => k_is)
    (case a32 => k_is)
    (case i32 => k_is)
    (case l32 => k_is)
    (case c32 => k_is)
    (case k32 => k_is)
    (case a33 => k_is)
    (case l33 => k_is)
    (case c33 => k_is)
    (case k33 => k_is)
    (case a34 => k_is)
    (case l34 => k_is)
    (case c34 => k_is)
    (case k34 => k_is)
    (case a35 => k_is)
    (case l35 => k_is)
    (case c35 => k_is)
    (case k35 => k_is)
    (case a36 => k_is)
    (case l36 => k_is)
    (case c36 => k_is)
    (case k36 => k_is)
    (case a37 => k_is)
    (case l37 => k_is)
    (case c37 => k_is)
    (case k37 => k_is)
    (case a38 => k_is)
    (case l38 => k_is)
    (case c38 => k_is)
    (case k38 => k_is)
    (case a39 => k_is)
    (case l39 => k_is)
    (case c39 => k_is)
    (case k39 => k_is)
    (case a40 => k_is)
    (case l40 => k_is)
    (case c40 => k_is)
    (case k40 => k_is)
    (case a41 => k_is)
    (case l41 => k_is)
    (case c41 => k_is)
    (case k41 => k_is)
    (case a42 => k_is)
    (case l42 => k_is)
    (case c42 => k_is)
    (case k42 => k_is)
    (case b_abs => k_is)
    (case b_len => k_is)
    (case b_max => k_is)
    (case b_min => k_is)
    (case b_int => k_is)
    (case b_list => k_is)
    (case b_tuple => k_is)
    (case b_range => k_is)
    (case b_zip => k_is)
    (case b_isinstance => k_is)
    (case b_all => k_is)
    (case b_str => k_is)
    (case b_dict => k_is)
    (case v_CELLS => k_is)
    (case v_DEEDS => k_is)
    (case wl_DEEDS => k_is)
    (case wq_DEEDS => rfl)
    (case v_MOST_WORD => k_is)
    (case v_WORDS => k_is)
    (case v_OF_ONE => k_is)
    (case wl_OF_ONE => k_is)
    (case wk_OF_ONE => repeat (first | exact True.intro | refine ⟨⟨_, _, rfl, rfl⟩, ?_⟩))
    (case ws_OF_ONE => rfl)
    (case wq_OF_ONE => rfl)
    (case wn_OF_ONE => decide)
    (case v_OF_TWO => k_is)
    (case wl_OF_TWO => k_is)
    (case wk_OF_TWO => repeat (first | exact True.intro | refine ⟨⟨_, _, rfl, rfl⟩, ?_⟩))
    (case ws_OF_TWO => rfl)
    (case wq_OF_TWO => rfl)
    (case wn_OF_TWO => decide)
#print axioms PySem.Challenge.cw_coverrows_k17_whole_fits_mean_the_node_holds
