import PyProof.Rows.All
import Wide.All
import OpenK.AllK
import Wide.FinOn
import HandS.ForMost
import HandS.TupAny
import HandS.Wide
import HandS.IsInst
import HandS.Style
import HandS.Deep
import HandS.SetFor
import HandS.Zip
import HandS.Conv
import HandS.Text
import HandS.FStr
import HandS.Defaults
import HandS.More
import PyProof.DictUpdate
import HandS.SetKeys
import HandS.SetBool
import KE.DataFind
import HandS.DictComp
import HandS.CallLocal
import HandS.DictEq
import HandS.OwnEq
import PyProof.InstEq
import HandS.Codes
import PyProof.SumAny
import HandS.IntHex
import KE.GoesEnumKw
import KE.GoesMore
import HandS.RaiseMore
import HandS.ExcOwn
import HandS.ExcInit
import HandS.ExcField
import HandS.TryOnly
import HandS.WordsExc
import HandS.ExcIs
import KE.KExcIs
import PySem.Challenge.RW_coverrows_k71_webs_written
set_option Elab.async false
set_option linter.all false
set_option maxRecDepth 100000
set_option maxHeartbeats 4000000
set_option autoImplicit false
/-! DL: data and numbered cells over the hand layer -/
namespace DL
open PySem L2

/-- a value: data, a cell's number, any other one -/
inductive U where
  | d (d : PyData) | p (n : Nat) | v (v : V) | s (K : PySem.W.Frag) (ns : List Int)
/-- what a cell holds -/
inductive Ob where
  | lst (ds : List PyData) | lsp (us : List U) | tpp (us : List U)
  | dic (kvs : List (Key × PyData)) | dip (kvs : List (Key × U)) | dit (kvs : List (List Key × PyData))
  | ins (C : Addr) (fs : List (Str × U)) | lkd (kvs : List (Key × PyData)) (od : Obj) | dead

/-- an own exception: its class, its fields -/
structure XV where
  C : Addr
  fs : List (Str × PyData)

mutual
inductive Rp (F : Hp) : PyData → V → Prop
  | non : Rp F .none .non
  | bl (b : Bool) : Rp F (.bool b) (.bl b)
  | int (i : Int) : Rp F (.int i) (.int i)
  | str (x : Str) : Rp F (.str x) (.str x)
  | lst {a : Addr} {vs : List V} {ds : List PyData} : F a = some (.lst vs) → RpL F ds vs → Rp F (.list ds) (.ref a)
  | tup {a : Addr} {vs : List V} {ds : List PyData} : F a = some (.tup vs) → RpL F ds vs → Rp F (.tuple ds) (.ref a)
inductive RpL (F : Hp) : List PyData → List V → Prop
  | nil : RpL F [] []
  | cons {d : PyData} {v : V} {ds : List PyData} {vs : List V} : Rp F d v → RpL F ds vs → RpL F (d :: ds) (v :: vs)
end

mutual
theorem Rp.mono {F F' : Hp} (e : Same F F') : ∀ {d : PyData} {v : V}, Rp F d v → Rp F' d v
  | _, _, .non => .non
  | _, _, .bl b => .bl b
  | _, _, .int i => .int i
  | _, _, .str x => .str x
  | _, _, .lst h r => .lst (e _ _ h) (RpL.mono e r)
  | _, _, .tup h r => .tup (e _ _ h) (RpL.mono e r)
theorem RpL.mono {F F' : Hp} (e : Same F F') : ∀ {ds : List PyData} {vs : List V}, RpL F ds vs → RpL F' ds vs
  | _, _, .nil => .nil
  | _, _, .cons h r => .cons (Rp.mono e h) (RpL.mono e r)
end
theorem RpL.length {F : Hp} : ∀ {ds : List PyData} {vs : List V}, RpL F ds vs → ds.length = vs.length
  | _, _, .nil => rfl
  | _, _, .cons _ r => by simp [RpL.length r]
theorem RpL.append {F : Hp} : ∀ {ds es : List PyData} {vs ws : List V}, RpL F ds vs → RpL F es ws → RpL F (ds ++ es) (vs ++ ws)
  | _, _, _, _, .nil, r => r
  | _, _, _, _, .cons h r, q => .cons h (RpL.append r q)
theorem RpL.get {F : Hp} : ∀ {ds : List PyData} {vs : List V}, RpL F ds vs → ∀ {i : Nat} {d : PyData}, ds[i]? = some d → ∃ v, vs[i]? = some v ∧ Rp F d v
  | _, _, .nil, i, d, h => by simp at h
  | _, _, .cons h r, 0, d, q => ⟨_, rfl, by simp at q; subst q; exact h⟩
  | _, _, .cons h r, i + 1, d, q => by
    obtain ⟨v, h1, h2⟩ := RpL.get r (i := i) (d := d) (by simpa using q)
    exact ⟨v, by simpa using h1, h2⟩
theorem RpL.getV {F : Hp} : ∀ {ds : List PyData} {vs : List V}, RpL F ds vs → ∀ {i : Nat} {v : V}, vs[i]? = some v → ∃ d, ds[i]? = some d ∧ Rp F d v
  | _, _, .nil, i, d, h => by simp at h
  | _, _, .cons h r, 0, d, q => ⟨_, rfl, by simp at q; subst q; exact h⟩
  | _, _, .cons h r, i + 1, d, q => by
    obtain ⟨v, h1, h2⟩ := RpL.getV r (i := i) (v := d) (by simpa using q)
    exact ⟨v, by simpa using h1, h2⟩
theorem RpL.take {F : Hp} : ∀ {ds : List PyData} {vs : List V} (n : Nat), RpL F ds vs → RpL F (ds.take n) (vs.take n)
  | _, _, 0, _ => by simpa using RpL.nil
  | _, _, _ + 1, .nil => .nil
  | _, _, n + 1, .cons h r => .cons h (RpL.take n r)
theorem RpL.drop {F : Hp} : ∀ {ds : List PyData} {vs : List V} (n : Nat), RpL F ds vs → RpL F (ds.drop n) (vs.drop n)
  | _, _, 0, r => r
  | _, _, _ + 1, .nil => .nil
  | _, _, n + 1, .cons _ r => RpL.drop n r
theorem RpL.reverse {F : Hp} {ds : List PyData} {vs : List V} (h : RpL F ds vs) : RpL F ds.reverse vs.reverse := by
  have key : ∀ {ds : List PyData} {vs : List V}, RpL F ds vs → RpL F ds.reverse vs.reverse := by
    intro ds
    induction ds with
    | nil => intro vs h; cases h; exact .nil
    | cons d ds ih =>
      intro vs h
      cases h with
      | cons h r =>
        rw [List.reverse_cons, List.reverse_cons]
        exact (ih r).append (.cons h .nil)
  exact key h
theorem RpL.set {F : Hp} {d : PyData} {v : V} (h : Rp F d v) : ∀ {ds : List PyData} {vs : List V} (n : Nat), RpL F ds vs → RpL F (ds.set n d) (vs.set n v)
  | _, _, _, .nil => .nil
  | _, _, 0, .cons _ r => .cons h r
  | _, _, n + 1, .cons q r => .cons q (RpL.set h n r)
theorem RpL.erase {F : Hp} : ∀ {ds : List PyData} {vs : List V} (n : Nat), RpL F ds vs → RpL F (ds.eraseIdx n) (vs.eraseIdx n)
  | _, _, _, .nil => .nil
  | _, _, 0, .cons _ r => r
  | _, _, n + 1, .cons q r => .cons q (RpL.erase n r)
theorem RpL.insert {F : Hp} {d : PyData} {v : V} (h : Rp F d v) : ∀ {ds : List PyData} {vs : List V} (n : Nat), RpL F ds vs → RpL F (ds.insertIdx n d) (vs.insertIdx n v)
  | _, _, 0, r => .cons h r
  | _, _, n + 1, .nil => .nil
  | _, _, n + 1, .cons q r => .cons q (RpL.insert h n r)
theorem RpL.flatRep {F : Hp} {ds : List PyData} {vs : List V} (h : RpL F ds vs) : ∀ n, RpL F (List.replicate n ds).flatten (List.replicate n vs).flatten
  | 0 => .nil
  | n + 1 => by
    rw [List.replicate_succ, List.replicate_succ, List.flatten_cons, List.flatten_cons]
    exact h.append (RpL.flatRep h n)
mutual
theorem Rp.dp {K : PySem.W.Frag} {F H : Hp} (e : Same F H) : ∀ {d : PyData} {v : V}, Rp F d v → Dp K H v d
  | _, _, .non => .non
  | _, _, .bl b => .bl b
  | _, _, .int i => .int i
  | _, _, .str x => .str x
  | _, _, .lst h r => .lst (SqL.of (e _ _ h)) (RpL.dp e r)
  | _, _, .tup h r => .tup (SqT.of (e _ _ h)) (RpL.dp e r)
theorem RpL.dp {K : PySem.W.Frag} {F H : Hp} (e : Same F H) : ∀ {ds : List PyData} {vs : List V}, RpL F ds vs → DpAll K H vs ds
  | _, _, .nil => .nil
  | _, _, .cons h r => .cons (Rp.dp e h) (RpL.dp e r)
end
theorem RpL.ints {F : Hp} : ∀ (ns : List Int), RpL F (ns.map PyData.int) (ns.map V.int)
  | [] => .nil
  | n :: ns => .cons (.int n) (RpL.ints ns)
theorem RpL.strs {F : Hp} : ∀ (ns : List Str), RpL F (ns.map PyData.str) (ns.map V.str)
  | [] => .nil
  | n :: ns => .cons (.str n) (RpL.strs ns)
theorem RpL.bls {F : Hp} : ∀ (ns : List Bool), RpL F (ns.map PyData.bool) (ns.map V.bl)
  | [] => .nil
  | n :: ns => .cons (.bl n) (RpL.bls ns)

/-- the frozen part, the cells' addresses -/
structure Wd where
  F : Hp
  th : List Addr

def RU (w : Wd) : U → V → Prop
  | .d d, v => Rp w.F d v
  | .p n, v => ∃ a, w.th[n]? = some a ∧ v = .ref a
  | .v x, v => v = x
  | .s K ns, v => ∃ a, v = .ref a ∧ SqL K w.F a (ns.map V.int)
abbrev RUs (w : Wd) : List U → List V → Prop := Paired (RU w)
def RO (w : Wd) : Ob → HO → Prop
  | .lst ds, o => ∃ vs, o = .lst vs ∧ RpL w.F ds vs
  | .lsp us, o => ∃ vs, o = .lst vs ∧ RUs w us vs
  | .tpp us, o => ∃ vs, o = .tup vs ∧ RUs w us vs
  | .dic kvs, o => ∃ ks, o = .dK ks ∧ Paired (fun (p : Key × PyData) (q : Key × V) => p.1 = q.1 ∧ Rp w.F p.2 q.2) kvs ks
  | .dip kvs, o => ∃ ks, o = .dK ks ∧ Paired (fun (p : Key × U) (q : Key × V) => p.1 = q.1 ∧ RU w p.2 q.2) kvs ks
  | .dit kvs, o => ∃ ks, o = .dT ks ∧ Paired (fun (p : List Key × PyData) (q : List Key × V) => p.1 = q.1 ∧ Rp w.F p.2 q.2) kvs ks
  | .ins C fs, o => ∃ dx gs, o = .ins C dx gs ∧ Paired (fun (p : Str × U) (q : Str × V) => p.1 = q.1 ∧ RU w p.2 q.2) fs gs
  | .lkd kvs od, o => ∃ ks, o = .frz od (.dK ks) ∧ Paired (fun (p : Key × PyData) (q : Key × V) => p.1 = q.1 ∧ Rp w.F p.2 q.2) kvs ks
  | .dead, _ => True

structure Hold (w : Wd) (M : List Ob) (H : Hp) : Prop where
  len : w.th.length = M.length
  nd : w.th.Nodup
  sub : Same w.F H
  cell : ∀ (n : Nat) (a : Addr) (m : Ob), w.th[n]? = some a → M[n]? = some m → ∃ o, H a = some o ∧ (m = .dead ∨ (w.F a = none ∧ RO w m o))

structure Step (w : Wd) (H : Hp) (w' : Wd) (H' : Hp) : Prop where
  F : Same w.F w'.F
  th : ∃ t, w'.th = w.th ++ t ∧ ∀ a ∈ t, H a = none
  fr : ∀ a o, H a = some o → a ∉ w.th → H' a = some o
  own : ∀ a o, w.F a = none → w'.F a = some o → H a = none ∨ a ∈ w.th

theorem Step.refl (w : Wd) (H : Hp) : Step w H w H := ⟨Same.refl _, ⟨[], by simp, by simp⟩, fun _ _ h _ => h, fun a o h1 h2 => by rw [h1] at h2; cases h2⟩
theorem none_back {H H1 : Hp} {a : Addr} (f : ∀ o, H a = some o → H1 a = some o) (h : H1 a = none) : H a = none := by
  cases e : H a with
  | none => rfl
  | some o => rw [f o e] at h; cases h
theorem Hold.live {w : Wd} {M : List Ob} {H : Hp} (h : Hold w M H) {a : Addr} (ha : a ∈ w.th) : ∃ o, H a = some o := by
  obtain ⟨n, hn⟩ := List.mem_iff_getElem?.mp ha
  have hl : n < M.length := by
    have := (List.getElem?_eq_some_iff.mp hn).1
    rw [h.len] at this
    exact this
  obtain ⟨o, e, _⟩ := h.cell n a M[n] hn (List.getElem?_eq_getElem hl)
  exact ⟨o, e⟩
theorem Step.trans {w w1 w2 : Wd} {H H1 H2 : Hp} {M1 : List Ob} (s : Step w H w1 H1) (hold : Hold w1 M1 H1) (t : Step w1 H1 w2 H2) : Step w H w2 H2 := by
  obtain ⟨u, hu, hu0⟩ := s.th
  obtain ⟨v, hv, hv0⟩ := t.th
  have mem1 : ∀ a, a ∉ w.th → ∀ o, H a = some o → a ∉ w1.th := fun a ha o e h => by
    rw [hu] at h
    rcases List.mem_append.mp h with h | h
    · exact ha h
    · rw [hu0 a h] at e; cases e
  refine ⟨s.F.trans t.F, ⟨u ++ v, by rw [hv, hu, List.append_assoc], fun a ha => ?_⟩, fun a o e n => t.fr a o (s.fr a o e n) (mem1 a n o e), fun a o e1 e2 => ?_⟩
  · rcases List.mem_append.mp ha with h | h
    · exact hu0 a h
    · have h1 := hv0 a h
      refine none_back (fun o e => s.fr a o e fun hm => ?_) h1
      obtain ⟨o, e⟩ := hold.live (a := a) (by rw [hu]; exact List.mem_append_left _ hm)
      rw [h1] at e; cases e
  · cases e : w1.F a with
    | some o1 => exact s.own a o1 e1 e
    | none =>
      rcases t.own a o e e2 with h | h
      · by_cases hm : a ∈ w.th
        · exact .inr hm
        · exact .inl (none_back (fun o e => s.fr a o e hm) h)
      · rw [hu] at h
        rcases List.mem_append.mp h with h | h
        · exact .inr h
        · exact .inl (hu0 a h)
theorem th_mono {l t : List Addr} {n : Nat} {a : Addr} (h : l[n]? = some a) : (l ++ t)[n]? = some a := by
  rw [List.getElem?_append_left (List.getElem?_eq_some_iff.mp h).1]; exact h
/-- what w knows, w' knows -/
structure Grow (w w' : Wd) : Prop where
  F : Same w.F w'.F
  th : ∀ (n : Nat) (a : Addr), w.th[n]? = some a → w'.th[n]? = some a
theorem Step.grow {w w' : Wd} {H H' : Hp} (s : Step w H w' H') : Grow w w' := by
  obtain ⟨t, e, _⟩ := s.th
  exact ⟨s.F, fun n a h => by rw [e]; exact th_mono h⟩
theorem Grow.refl (w : Wd) : Grow w w := ⟨Same.refl _, fun _ _ h => h⟩
theorem RU.grow {w w' : Wd} (g : Grow w w') : ∀ {u : U} {v : V}, RU w u v → RU w' u v
  | .d d, v, h => Rp.mono g.F h
  | .p n, v, ⟨a, h, e⟩ => ⟨a, g.th n a h, e⟩
  | .v x, v, h => h
  | .s K ns, v, ⟨a, e, h⟩ => ⟨a, e, g.F.seq h⟩
theorem RUs.grow {w w' : Wd} (g : Grow w w') {us : List U} {vs : List V} (h : RUs w us vs) : RUs w' us vs := L2.Paired.mapP h fun _ _ r => r.grow g
theorem RO.grow {w w' : Wd} (g : Grow w w') : ∀ {m : Ob} {o : HO}, RO w m o → RO w' m o
  | .lst ds, o, ⟨vs, e, r⟩ => ⟨vs, e, r.mono g.F⟩
  | .lsp us, o, ⟨vs, e, r⟩ => ⟨vs, e, RUs.grow g r⟩
  | .tpp us, o, ⟨vs, e, r⟩ => ⟨vs, e, RUs.grow g r⟩
  | .dic kvs, o, ⟨ks, e, r⟩ => ⟨ks, e, L2.Paired.mapP r fun _ _ q => ⟨q.1, q.2.mono g.F⟩⟩
  | .dip kvs, o, ⟨ks, e, r⟩ => ⟨ks, e, L2.Paired.mapP r fun _ _ q => ⟨q.1, q.2.grow g⟩⟩
  | .dit kvs, o, ⟨ks, e, r⟩ => ⟨ks, e, L2.Paired.mapP r fun _ _ q => ⟨q.1, q.2.mono g.F⟩⟩
  | .ins C fs, o, ⟨dx, gs, e, r⟩ => ⟨dx, gs, e, L2.Paired.mapP r fun _ _ q => ⟨q.1, q.2.grow g⟩⟩
  | .lkd kvs od, o, ⟨ks, e, r⟩ => ⟨ks, e, L2.Paired.mapP r fun _ _ q => ⟨q.1, q.2.mono g.F⟩⟩
  | .dead, o, h => h

/-- new data at p -/
def Wd.put (w : Wd) (p : Addr) (o : HO) : Wd := ⟨upd w.F p o, w.th⟩
theorem Wd.putF_ne {w : Wd} {p a : Addr} {o : HO} (h : a ≠ p) : (w.put p o).F a = w.F a := upd_ne h
theorem Wd.putF {w : Wd} {p : Addr} {o : HO} : (w.put p o).F p = some o := upd_same
section
variable {w : Wd} {M : List Ob} {H : Hp} {p : Addr} {o : HO}
theorem Hold.off (h : Hold w M H) (hp : H p = none) : p ∉ w.th := fun m => by
  obtain ⟨o, e⟩ := h.live m
  rw [hp] at e; cases e
theorem Hold.newF (h : Hold w M H) (hp : H p = none) : w.F p = none := none_back (h.sub p) hp
theorem same_put {F : Hp} (hp : F p = none) : Same F (upd F p o) := fun a u e => by
  rw [upd_ne (ne_of_none e hp)]; exact e
theorem Grow.put (hp : w.F p = none) : Grow w (w.put p o) := ⟨same_put hp, fun _ _ q => q⟩
theorem Hold.put (h : Hold w M H) (hp : H p = none) : Hold (w.put p o) M (upd H p o) := by
  refine ⟨h.len, h.nd, fun a u e => ?_, fun n a m e1 e2 => ?_⟩
  · by_cases ha : a = p
    · subst ha; rw [Wd.putF] at e; rw [upd_same]; exact e
    · rw [Wd.putF_ne ha] at e; rw [upd_ne ha]; exact h.sub a u e
  · obtain ⟨u, e3, e4⟩ := h.cell n a m e1 e2
    have ha : a ≠ p := ne_of_none e3 hp
    refine ⟨u, by rw [upd_ne ha]; exact e3, e4.imp id fun ⟨q1, q2⟩ => ⟨by rw [Wd.putF_ne ha]; exact q1, q2.grow (Grow.put (h.newF hp))⟩⟩
theorem Step.put (h : Hold w M H) (hp : H p = none) : Step w H (w.put p o) (upd H p o) := by
  refine ⟨same_put (h.newF hp), ⟨[], by simp [Wd.put], by simp⟩, fun a u e _ => by rw [upd_ne (ne_of_none e hp)]; exact e, fun a u e1 e2 => ?_⟩
  by_cases ha : a = p
  · subst ha; exact .inl hp
  · rw [Wd.putF_ne ha, e1] at e2; cases e2
theorem Wd.put_at : (w.put p o).F p = some o := upd_same
/-- a new cell -/
def Wd.cell (w : Wd) (p : Addr) : Wd := ⟨w.F, w.th ++ [p]⟩
theorem Grow.cell : Grow w (w.cell p) := ⟨Same.refl _, fun n a h => th_mono h⟩
theorem Hold.cell' (h : Hold w M H) (hp : H p = none) {m : Ob} (r : RO (w.cell p) m o) : Hold (w.cell p) (M ++ [m]) (upd H p o) := by
  refine ⟨by simp [Wd.cell, h.len], ?_, fun a u e => ?_, fun n a m' e1 e2 => ?_⟩
  · refine List.nodup_append.mpr ⟨h.nd, by simp, fun a ha b hb => ?_⟩
    simp at hb; subst hb
    exact fun e => h.off hp (e ▸ ha)
  · rw [upd_ne (ne_of_none (h.sub a u e) hp)]; exact h.sub a u e
  · by_cases hn : n < w.th.length
    · rw [Wd.cell, List.getElem?_append_left hn] at e1
      rw [List.getElem?_append_left (by rw [← h.len]; exact hn)] at e2
      obtain ⟨u, e3, e4⟩ := h.cell n a m' e1 e2
      have ha : a ≠ p := ne_of_none e3 hp
      exact ⟨u, by rw [upd_ne ha]; exact e3, e4.imp id fun ⟨q1, q2⟩ => ⟨q1, q2.grow Grow.cell⟩⟩
    · have hn' : n = w.th.length := by
        have := (List.getElem?_eq_some_iff.mp e1).1
        simp [Wd.cell] at this
        omega
      subst hn'
      simp [Wd.cell] at e1
      rw [h.len] at e2
      simp at e2
      subst e1; subst e2
      exact ⟨o, upd_same, .inr ⟨h.newF hp, r⟩⟩
theorem Step.cell (h : Hold w M H) (hp : H p = none) : Step w H (w.cell p) (upd H p o) := by
  refine ⟨Same.refl _, ⟨[p], rfl, by simp [hp]⟩, fun a u e _ => by rw [upd_ne (ne_of_none e hp)]; exact e, fun a u e1 e2 => ?_⟩
  rw [Wd.cell] at e2; rw [e1] at e2; cases e2
theorem Wd.cell_at (h : Hold w M H) : (w.cell p).th[M.length]? = some p := by
  rw [← h.len]; simp [Wd.cell]
/-- a cell is written -/
theorem Hold.set {n : Nat} {a : Addr} {m m0 : Ob} (h : Hold w M H) (ha : w.th[n]? = some a) (hm : M[n]? = some m0) (h0 : m0 ≠ .dead) (r : RO w m o) : Hold w (M.set n m) (upd H a o) := by
  have hF : w.F a = none := by
    obtain ⟨_, _, e⟩ := h.cell n a m0 ha hm
    rcases e with e | ⟨e, _⟩
    · exact absurd e h0
    · exact e
  refine ⟨by rw [List.length_set]; exact h.len, h.nd, fun b u e => ?_, fun k b m' e1 e2 => ?_⟩
  · rw [upd_ne (ne_of_none e hF)]; exact h.sub b u e
  · by_cases hk : k = n
    · subst hk
      rw [ha] at e1; cases e1
      rw [List.getElem?_set_self (List.getElem?_eq_some_iff.mp hm).1] at e2
      cases e2
      exact ⟨o, upd_same, .inr ⟨hF, r⟩⟩
    · rw [List.getElem?_set_ne (fun q => hk q.symm)] at e2
      obtain ⟨u, e3, e4⟩ := h.cell k b m' e1 e2
      have hb : b ≠ a := fun q => hk (by
        subst q
        have h1 := List.getElem?_eq_some_iff.mp e1
        have h2 := List.getElem?_eq_some_iff.mp ha
        obtain ⟨l1, q1⟩ := h1
        obtain ⟨l2, q2⟩ := h2
        exact (List.getElem_inj h.nd).mp (q1.trans q2.symm))
      exact ⟨u, by rw [upd_ne hb]; exact e3, e4⟩
theorem Step.set {n : Nat} {a : Addr} (ha : w.th[n]? = some a) : Step w H w (upd H a o) := by
  refine ⟨Same.refl _, ⟨[], by simp, by simp⟩, fun b u e hb => ?_, fun b u e1 e2 => by rw [e1] at e2; cases e2⟩
  rw [upd_ne (fun q => hb (by rw [q]; exact List.mem_of_getElem? ha))]; exact e
theorem Hold.frz {n : Nat} {a : Addr} {m0 : Ob} (h : Hold w M H) (ha : w.th[n]? = some a) (hm : M[n]? = some m0) (h0 : m0 ≠ .dead) (ho : H a = some o) : Hold (w.put a o) (M.set n .dead) H := by
  have hF : w.F a = none := by
    obtain ⟨_, _, e⟩ := h.cell n a m0 ha hm
    rcases e with e | ⟨e, _⟩
    · exact absurd e h0
    · exact e
  refine ⟨by rw [List.length_set]; exact h.len, h.nd, fun b u e => ?_, fun k b m' e1 e2 => ?_⟩
  · by_cases hb : b = a
    · subst hb; rw [Wd.putF] at e; rw [ho]; exact e
    · rw [Wd.putF_ne hb] at e; exact h.sub b u e
  · by_cases hk : k = n
    · subst hk
      have e1' : w.th[k]? = some b := e1
      rw [ha] at e1'; cases e1'
      rw [List.getElem?_set_self (List.getElem?_eq_some_iff.mp hm).1] at e2
      cases e2
      exact ⟨o, ho, .inl rfl⟩
    · rw [List.getElem?_set_ne (fun q => hk q.symm)] at e2
      obtain ⟨u, e3, e4⟩ := h.cell k b m' e1 e2
      have hb : b ≠ a := fun q => hk (by
        subst q
        obtain ⟨l1, q1⟩ := List.getElem?_eq_some_iff.mp (show w.th[k]? = some b from e1)
        obtain ⟨l2, q2⟩ := List.getElem?_eq_some_iff.mp ha
        exact (List.getElem_inj h.nd).mp (q1.trans q2.symm))
      exact ⟨u, e3, e4.imp id fun ⟨q1, q2⟩ => ⟨by rw [Wd.putF_ne hb]; exact q1, q2.grow (Grow.put hF)⟩⟩
theorem Step.frz {n : Nat} {a : Addr} {m0 : Ob} (h : Hold w M H) (ha : w.th[n]? = some a) (hm : M[n]? = some m0) (h0 : m0 ≠ .dead) : Step w H (w.put a o) H := by
  have hF : w.F a = none := by
    obtain ⟨_, _, e⟩ := h.cell n a m0 ha hm
    rcases e with e | ⟨e, _⟩
    · exact absurd e h0
    · exact e
  refine ⟨same_put hF, ⟨[], by simp [Wd.put], by simp⟩, fun b u e _ => e, fun b u e1 e2 => ?_⟩
  by_cases hb : b = a
  · subst hb; exact .inr (List.mem_of_getElem? ha)
  · rw [Wd.putF_ne hb, e1] at e2; cases e2
end
end DL

namespace DL
open PySem L2

theorem RU.D {w : Wd} {d : PyData} {v : V} (h : Rp w.F d v) : RU w (.d d) v := h
theorem RU.P {w : Wd} {n : Nat} {a : Addr} (h : w.th[n]? = some a) : RU w (.p n) (.ref a) := ⟨a, h, rfl⟩
theorem RU.V' {w : Wd} {v : V} : RU w (.v v) v := rfl
theorem RO.L {w : Wd} {ds : List PyData} {vs : List V} (h : RpL w.F ds vs) : RO w (.lst ds) (.lst vs) := ⟨vs, rfl, h⟩
theorem RO.LP {w : Wd} {us : List U} {vs : List V} (h : RUs w us vs) : RO w (.lsp us) (.lst vs) := ⟨vs, rfl, h⟩
theorem RO.TP {w : Wd} {us : List U} {vs : List V} (h : RUs w us vs) : RO w (.tpp us) (.tup vs) := ⟨vs, rfl, h⟩
abbrev Rho := List (Option U)
structure Env (w : Wd) (σ : L2.St) (ρ : Rho) : Prop where
  len : σ.length = ρ.length
  at_ : ∀ (i : Nat) (u : U), ρ[i]? = some (some u) → ∃ v, σ[i]? = some (some v) ∧ RU w u v
theorem Env.grow {w w' : Wd} {σ : L2.St} {ρ : Rho} (g : Grow w w') (e : Env w σ ρ) : Env w' σ ρ := ⟨e.len, fun i u h => by
  obtain ⟨v, h1, h2⟩ := e.at_ i u h
  exact ⟨v, h1, h2.grow g⟩⟩
theorem Env.set {w : Wd} {σ : L2.St} {ρ : Rho} {u : U} {v : V} (e : Env w σ ρ) (r : RU w u v) (i : Nat) : Env w (σ.set i (some v)) (ρ.set i (some u)) := by
  refine ⟨by rw [List.length_set, List.length_set]; exact e.len, fun j x h => ?_⟩
  by_cases hj : j = i
  · subst hj
    have hl : j < ρ.length := by
      have := (List.getElem?_eq_some_iff.mp h).1
      rw [List.length_set] at this; exact this
    rw [List.getElem?_set_self hl] at h
    cases h
    exact ⟨v, List.getElem?_set_self (by rw [e.len]; exact hl), r⟩
  · rw [List.getElem?_set_ne (fun q => hj q.symm)] at h
    rw [List.getElem?_set_ne (fun q => hj q.symm)]
    exact e.at_ j x h

/-- what follows a step -/
def Out {α β : Type} (R : Wd → α → β → Prop) (w : Wd) (H : Hp) (Qu : α → List Ob → Prop) (Q : β → Hp → Prop) : Prop :=
  ∀ (a : α) (M' : List Ob) (b : β) (w' : Wd) (H' : Hp), Step w H w' H' → Hold w' M' H' → R w' a b → Qu a M' → Q b H'
def OutN (w : Wd) (H : Hp) (Qu : Rho → List Ob → Prop) (Q : L2.St → Hp → Prop) : Prop :=
  ∀ (ρ' : Rho) (M' : List Ob) (σ' : L2.St) (w' : Wd) (H' : Hp), Step w H w' H' → Hold w' M' H' → Env w' σ' ρ' → Qu ρ' M' → Q σ' H'
abbrev RB (_ : Wd) (a b : Bool) : Prop := a = b
theorem Out.trans {α β : Type} {R : Wd → α → β → Prop} {w w1 : Wd} {H H1 : Hp} {M1 : List Ob} {Qu : α → List Ob → Prop} {Q : β → Hp → Prop} (s : Step w H w1 H1) (h : Hold w1 M1 H1) (o : Out R w H Qu Q) : Out R w1 H1 Qu Q :=
  fun a M' b w' H' s' h' r q => o a M' b w' H' (s.trans h s') h' r q
theorem OutN.trans {w w1 : Wd} {H H1 : Hp} {M1 : List Ob} {Qu : Rho → List Ob → Prop} {Q : L2.St → Hp → Prop} (s : Step w H w1 H1) (h : Hold w1 M1 H1) (o : OutN w H Qu Q) : OutN w1 H1 Qu Q :=
  fun a M' b w' H' s' h' r q => o a M' b w' H' (s.trans h s') h' r q
theorem Out.here {α β : Type} {R : Wd → α → β → Prop} {w : Wd} {H : Hp} {M : List Ob} {Qu : α → List Ob → Prop} {Q : β → Hp → Prop} (o : Out R w H Qu Q) (h : Hold w M H) {a : α} {b : β} (r : R w a b) (q : Qu a M) : Q b H :=
  o a M b w H (Step.refl w H) h r q

abbrev WE := Rho → List Ob → (U → List Ob → Prop) → Prop
abbrev WT := Rho → List Ob → (Bool → List Ob → Prop) → Prop
abbrev WA := Rho → List Ob → (List U → List Ob → Prop) → Prop
structure DEnds where
  nx : Rho → List Ob → Prop
  rt : U → List Ob → Prop
  bk : Rho → List Ob → Prop := fun _ _ => False
  ct : Rho → List Ob → Prop := fun _ _ => False
  ex : XV → Rho → List Ob → Prop := fun _ _ _ => False
abbrev WS := DEnds → Rho → List Ob → Prop
structure EndsOk (w : Wd) (H : Hp) (De : DEnds) (E : Ends) : Prop where
  nx : OutN w H De.nx E.nx
  rt : Out RU w H De.rt E.rt
  bk : OutN w H De.bk E.bk
  ct : OutN w H De.ct E.ct
theorem EndsOk.trans {w w1 : Wd} {H H1 : Hp} {M1 : List Ob} {De : DEnds} {E : Ends} (s : Step w H w1 H1) (h : Hold w1 M1 H1) (o : EndsOk w H De E) : EndsOk w1 H1 De E := ⟨o.nx.trans s h, o.rt.trans s h, o.bk.trans s h, o.ct.trans s h⟩

def LE (te : TE) (we : WE) : Prop := ∀ ⦃w : Wd⦄ ⦃M : List Ob⦄ ⦃H : Hp⦄ ⦃σ : L2.St⦄ ⦃ρ : Rho⦄ ⦃Qu : U → List Ob → Prop⦄ ⦃Q : VK⦄, Hold w M H → Env w σ ρ → we ρ M Qu → Out RU w H Qu Q → te σ H Q
def LT (te : TT) (we : WT) : Prop := ∀ ⦃w : Wd⦄ ⦃M : List Ob⦄ ⦃H : Hp⦄ ⦃σ : L2.St⦄ ⦃ρ : Rho⦄ ⦃Qu : Bool → List Ob → Prop⦄ ⦃Q : Bool → Hp → Prop⦄, Hold w M H → Env w σ ρ → we ρ M Qu → Out RB w H Qu Q → te σ H Q
def LA (te : TA) (we : WA) : Prop := ∀ ⦃w : Wd⦄ ⦃M : List Ob⦄ ⦃H : Hp⦄ ⦃σ : L2.St⦄ ⦃ρ : Rho⦄ ⦃Qu : List U → List Ob → Prop⦄ ⦃Q : List V → Hp → Prop⦄, Hold w M H → Env w σ ρ → we ρ M Qu → Out RUs w H Qu Q → te σ H Q
def LS (ts : TS) (ws : WS) : Prop := ∀ ⦃w : Wd⦄ ⦃M : List Ob⦄ ⦃H : Hp⦄ ⦃σ : L2.St⦄ ⦃ρ : Rho⦄ ⦃De : DEnds⦄ ⦃E : Ends⦄, Hold w M H → Env w σ ρ → ws De ρ M → EndsOk w H De E → ts E σ H
abbrev WG := U → Rho → List Ob → (Rho → List Ob → Prop) → Prop
abbrev WGs := List U → Rho → List Ob → (Rho → List Ob → Prop) → Prop
/-- a target; vs: the slots that it may set (a comprehension's own) -/
def LG (g : TG) (wg : WG) : Prop := ∀ ⦃w : Wd⦄ ⦃M : List Ob⦄ ⦃H : Hp⦄ ⦃σ : L2.St⦄ ⦃ρ : Rho⦄ ⦃u : U⦄ ⦃v : V⦄ ⦃Qu : Rho → List Ob → Prop⦄ ⦃Q : L2.St → Hp → Prop⦄, Hold w M H → Env w σ ρ → RU w u v → wg u ρ M Qu → OutN w H Qu Q → g v σ H Q
def LGs (g : TGs) (wg : WGs) : Prop := ∀ ⦃w : Wd⦄ ⦃M : List Ob⦄ ⦃H : Hp⦄ ⦃σ : L2.St⦄ ⦃ρ : Rho⦄ ⦃u : List U⦄ ⦃v : List V⦄ ⦃Qu : Rho → List Ob → Prop⦄ ⦃Q : L2.St → Hp → Prop⦄, Hold w M H → Env w σ ρ → RUs w u v → wg u ρ M Qu → OutN w H Qu Q → g v σ H Q
abbrev R2' := U → U → List Ob → (U → List Ob → Prop) → Prop
def LR (r : R2) (wr : R2') : Prop := ∀ ⦃w : Wd⦄ ⦃M : List Ob⦄ ⦃H : Hp⦄ ⦃x y : U⦄ ⦃vx vy : V⦄ ⦃Qu : U → List Ob → Prop⦄ ⦃Q : VK⦄, Hold w M H → RU w x vx → RU w y vy → wr x y M Qu → Out RU w H Qu Q → r vx vy H Q
def LU (r : V → Hp → VK → Prop) (wr : U → List Ob → (U → List Ob → Prop) → Prop) : Prop := ∀ ⦃w : Wd⦄ ⦃M : List Ob⦄ ⦃H : Hp⦄ ⦃x : U⦄ ⦃vx : V⦄ ⦃Qu : U → List Ob → Prop⦄ ⦃Q : VK⦄, Hold w M H → RU w x vx → wr x M Qu → Out RU w H Qu Q → r vx H Q
def LC (r : List V → Hp → VK → Prop) (wr : List U → List Ob → (U → List Ob → Prop) → Prop) : Prop := ∀ ⦃w : Wd⦄ ⦃M : List Ob⦄ ⦃H : Hp⦄ ⦃x : List U⦄ ⦃vx : List V⦄ ⦃Qu : U → List Ob → Prop⦄ ⦃Q : VK⦄, Hold w M H → RUs w x vx → wr x M Qu → Out RU w H Qu Q → r vx H Q
/-- a method of a built-in type -/
def LM (r : V → List V → Hp → VK → Prop) (wr : U → List U → List Ob → (U → List Ob → Prop) → Prop) : Prop := ∀ ⦃w : Wd⦄ ⦃M : List Ob⦄ ⦃H : Hp⦄ ⦃x : U⦄ ⦃vx : V⦄ ⦃ys : List U⦄ ⦃vs : List V⦄ ⦃Qu : U → List Ob → Prop⦄ ⦃Q : VK⦄, Hold w M H → RU w x vx → RUs w ys vs → wr x ys M Qu → Out RU w H Qu Q → r vx vs H Q

/-! ### expressions -/
section
variable {ta tb tc te : TE} {wa wb wc we : WE} {r : R2} {wr : R2'}
def wVar (i : Nat) : WE := fun ρ M Q => ∃ u, ρ[i]? = some (some u) ∧ Q u M
theorem le_var {i : Nat} : LE (tVar i) (wVar i) := by
  intro w M H σ ρ Qu Q h e ⟨u, h1, h2⟩ o
  obtain ⟨v, h3, h4⟩ := e.at_ i u h1
  exact ⟨v, h3, o.here h h4 h2⟩
def wC (u : U) : WE := fun _ M Q => Q u M
theorem le_c {v : V} {u : U} (k : ∀ w, RU w u v) : LE (tC v) (wC u) := fun _ _ _ _ _ _ _ h _ hq o => o.here h (k _) hq
theorem le_int {i : Int} : LE (tC (.int i)) (wC (.d (.int i))) := le_c fun _ => RU.D (Rp.int i)
theorem le_str {i : Str} : LE (tC (.str i)) (wC (.d (.str i))) := le_c fun _ => RU.D (Rp.str i)
theorem le_bl {i : Bool} : LE (tC (.bl i)) (wC (.d (.bool i))) := le_c fun _ => RU.D (Rp.bl i)
theorem le_non : LE (tC .non) (wC (.d .none)) := le_c fun _ => RU.D (Rp.non)
theorem le_raw {v : V} : LE (tC v) (wC (.v v)) := le_c fun _ => RU.V'
def wOp (wr : R2') (wa wb : WE) : WE := fun ρ M Q => wa ρ M fun x M1 => wb ρ M1 fun y M2 => wr x y M2 Q
theorem le_op (hr : LR r wr) (ha : LE ta wa) (hb : LE tb wb) : LE (tOp r ta tb) (wOp wr wa wb) := fun _ _ _ _ _ _ _ h e hq o =>
  ha h e hq fun _ _ _ _ _ s1 h1 r1 q1 => hb h1 (e.grow s1.grow) q1 fun _ _ _ _ _ s2 h2 r2 q2 => hr h2 (r1.grow s2.grow) r2 q2 ((o.trans s1 h1).trans s2 h2)
def wUn (wr : U → List Ob → (U → List Ob → Prop) → Prop) (wa : WE) : WE := fun ρ M Q => wa ρ M fun x M1 => wr x M1 Q
theorem le_un {r : V → Hp → VK → Prop} {wr : U → List Ob → (U → List Ob → Prop) → Prop} (hr : LU r wr) (ha : LE ta wa) : LE (tUn r ta) (wUn wr wa) := fun _ _ _ _ _ _ _ h e hq o =>
  ha h e hq fun _ _ _ _ _ s1 h1 r1 q1 => hr h1 r1 q1 (o.trans s1 h1)
/-! tests -/
def wB (we : WE) : WT := fun ρ M Q => we ρ M fun x M1 => ∃ b, x = .d (.bool b) ∧ Q b M1
theorem lt_test (ha : LE te we) : LT (tTest te) (wB we) := fun _ _ _ _ _ _ _ h e hq o =>
  ha h e hq fun _ _ _ _ _ s1 h1 r1 q1 => by
    obtain ⟨b, rfl, q⟩ := q1
    cases r1
    exact ⟨b, rfl, (o.trans s1 h1).here h1 rfl q⟩
theorem lt_B (ha : LE te we) : LT (tB te) (wB we) := fun _ _ _ _ _ _ _ h e hq o =>
  ha h e hq fun _ _ _ _ _ s1 h1 r1 q1 => by
    obtain ⟨b, rfl, q⟩ := q1
    cases r1
    exact ⟨b, rfl, (o.trans s1 h1).here h1 rfl q⟩
variable {t1 t2 : TT} {w1 w2 : WT}
def wAnd (w1 w2 : WT) : WT := fun ρ M Q => w1 ρ M fun c M1 => if c = true then w2 ρ M1 Q else Q false M1
def wOr (w1 w2 : WT) : WT := fun ρ M Q => w1 ρ M fun c M1 => if c = true then Q true M1 else w2 ρ M1 Q
def wNot (w1 : WT) : WT := fun ρ M Q => w1 ρ M fun c M1 => Q (!c) M1
theorem lt_and (ha : LT t1 w1) (hb : LT t2 w2) : LT (tAnd t1 t2) (wAnd w1 w2) := fun _ _ _ _ _ _ _ h e hq o =>
  ha h e hq fun b _ c _ _ s1 h1 r1 q1 => by
    have r : b = c := r1
    subst r
    cases b with
    | true => exact hb h1 (e.grow s1.grow) q1 (o.trans s1 h1)
    | false => exact (o.trans s1 h1).here h1 rfl q1
theorem lt_or (ha : LT t1 w1) (hb : LT t2 w2) : LT (tOr t1 t2) (wOr w1 w2) := fun _ _ _ _ _ _ _ h e hq o =>
  ha h e hq fun b _ c _ _ s1 h1 r1 q1 => by
    have r : b = c := r1
    subst r
    cases b with
    | false => exact hb h1 (e.grow s1.grow) q1 (o.trans s1 h1)
    | true => exact (o.trans s1 h1).here h1 rfl q1
theorem lt_not (ha : LT t1 w1) : LT (tNot t1) (wNot w1) := fun _ _ _ _ _ _ _ h e hq o =>
  ha h e hq fun b _ c _ _ s1 h1 r1 q1 => by
    have r : b = c := r1
    subst r
    exact (o.trans s1 h1).here h1 rfl q1
def wYes : WT := fun _ M Q => Q true M
theorem lt_yes : LT tYes wYes := fun _ _ _ _ _ _ _ h _ hq o => o.here h rfl hq
/-! and, or, not as values -/
def wAndV (wa wb : WE) : WE := fun ρ M Q => wa ρ M fun x M1 => ∃ c, x = .d (.bool c) ∧ if c = true then wb ρ M1 Q else Q (.d (.bool false)) M1
def wOrV (wa wb : WE) : WE := fun ρ M Q => wa ρ M fun x M1 => ∃ c, x = .d (.bool c) ∧ if c = true then Q (.d (.bool true)) M1 else wb ρ M1 Q
def wNotV (wa : WE) : WE := fun ρ M Q => wa ρ M fun x M1 => ∃ c, x = .d (.bool c) ∧ Q (.d (.bool (!c))) M1
theorem le_and (ha : LE ta wa) (hb : LE tb wb) : LE (tAndV ta tb) (wAndV wa wb) := fun _ _ _ _ _ _ _ h e hq o =>
  ha h e hq fun _ _ _ _ _ s1 h1 r1 q1 => by
    obtain ⟨b, rfl, q⟩ := q1
    cases r1
    refine ⟨b, rfl, ?_⟩
    cases b with
    | true => exact hb h1 (e.grow s1.grow) q (o.trans s1 h1)
    | false => exact (o.trans s1 h1).here h1 (RU.D (Rp.bl false)) q
theorem le_or (ha : LE ta wa) (hb : LE tb wb) : LE (tOrV ta tb) (wOrV wa wb) := fun _ _ _ _ _ _ _ h e hq o =>
  ha h e hq fun _ _ _ _ _ s1 h1 r1 q1 => by
    obtain ⟨b, rfl, q⟩ := q1
    cases r1
    refine ⟨b, rfl, ?_⟩
    cases b with
    | false => exact hb h1 (e.grow s1.grow) q (o.trans s1 h1)
    | true => exact (o.trans s1 h1).here h1 (RU.D (Rp.bl true)) q
theorem le_not (ha : LE ta wa) : LE (tNotV ta) (wNotV wa) := fun _ _ _ _ _ _ _ h e hq o =>
  ha h e hq fun _ _ _ _ _ s1 h1 r1 q1 => by
    obtain ⟨b, rfl, q⟩ := q1
    cases r1
    exact ⟨b, rfl, (o.trans s1 h1).here h1 (RU.D (Rp.bl _)) q⟩
def wIf (w1 : WT) (wa wb : WE) : WE := fun ρ M Q => w1 ρ M fun c M1 => if c = true then wa ρ M1 Q else wb ρ M1 Q
theorem le_if (ht : LT t1 w1) (ha : LE ta wa) (hb : LE tb wb) : LE (tIf t1 ta tb) (wIf w1 wa wb) := fun _ _ _ _ _ _ _ h e hq o =>
  ht h e hq fun b _ c _ _ s1 h1 r1 q1 => by
    have r : b = c := r1
    subst r
    cases b with
    | true => exact ha h1 (e.grow s1.grow) q1 (o.trans s1 h1)
    | false => exact hb h1 (e.grow s1.grow) q1 (o.trans s1 h1)
/-- a < b < c -/
def wChain (wr wr' : R2') (wa wb wc : WE) : WE := fun ρ M Q => wa ρ M fun x M1 => wb ρ M1 fun y M2 => wr x y M2 fun z M3 => ∃ k, z = .d (.bool k) ∧ (if k = true then wc ρ M3 fun v M4 => wr' y v M4 Q else Q (.d (.bool false)) M3)
theorem le_chain {r' : R2} {wr' : R2'} (hr : LR r wr) (hr' : LR r' wr') (ha : LE ta wa) (hb : LE tb wb) (hc : LE tc wc) : LE (tChain r r' ta tb tc) (wChain wr wr' wa wb wc) := fun _ _ _ _ _ _ _ h e hq o =>
  ha h e hq fun _ _ _ _ _ s1 h1 r1 q1 => hb h1 (e.grow s1.grow) q1 fun _ _ _ _ _ s2 h2 r2 q2 => hr h2 (r1.grow s2.grow) r2 q2 fun _ _ _ _ _ s3 h3 r3 q3 => by
    obtain ⟨b, rfl, q⟩ := q3
    cases r3
    refine ⟨b, rfl, ?_⟩
    have s12 := s1.trans h1 s2
    have s13 := s12.trans h2 s3
    cases b with
    | true => exact hc h3 (e.grow s13.grow) q fun _ _ _ _ _ s4 h4 r4 q4 => hr' h4 (r2.grow (s3.trans h3 s4).grow) r4 q4 (o.trans (s13.trans h3 s4) h4)
    | false => exact (o.trans s13 h3).here h3 (RU.D (Rp.bl false)) q
end
/-! ### arguments, displays, calls -/
section
variable {ta tb te : TE} {wa wb we : WE} {tr : TA} {wr : WA}
def wNil : WA := fun _ M Q => Q [] M
def wCons (wa : WE) (wr : WA) : WA := fun ρ M Q => wa ρ M fun x M1 => wr ρ M1 fun xs M2 => Q (x :: xs) M2
theorem la_nil : LA tNil wNil := fun _ _ _ _ _ _ _ h _ hq o => o.here h .nil hq
theorem la_cons (ha : LE ta wa) (hr : LA tr wr) : LA (tCons ta tr) (wCons wa wr) := fun _ _ _ _ _ _ _ h e hq o =>
  ha h e hq fun _ _ _ _ _ s1 h1 r1 q1 => hr h1 (e.grow s1.grow) q1 fun _ _ _ _ _ s2 h2 r2 q2 => ((o.trans s1 h1).trans s2 h2).here h2 (.cons (RU.grow s2.grow r1) r2) q2
/-- the data of values -/
def dats : List U → Option (List PyData)
  | [] => some []
  | .d d :: us => match dats us with
    | some ds => some (d :: ds)
    | none => none
  | _ :: _ => none
theorem dats_ok {w : Wd} : ∀ {us : List U} {vs : List V} {ds : List PyData}, RUs w us vs → dats us = some ds → RpL w.F ds vs
  | _, _, _, .nil, e => by cases e; exact .nil
  | .d d :: us, _, ds, .cons r t, e => by
    have e' : (match dats us with | some ds => some (d :: ds) | none => none) = some ds := e
    cases q : dats us with
    | none => rw [q] at e'; cases e'
    | some es =>
      rw [q] at e'
      cases e'
      exact .cons r (dats_ok t q)
  | .p _ :: _, _, _, .cons _ _, e => by cases e
  | .v _ :: _, _, _, .cons _ _, e => by cases e
  | .s _ _ :: _, _, _, .cons _ _, e => by cases e
theorem dats_map : ∀ ds : List PyData, dats (ds.map U.d) = some ds
  | [] => rfl
  | d :: ds => by
    show (match dats (ds.map U.d) with | some ds => some (d :: ds) | none => none) = some (d :: ds)
    rw [dats_map ds]
theorem datsR {w : Wd} : ∀ {ds : List PyData} {vs : List V}, RUs w (ds.map U.d) vs → RpL w.F ds vs := fun r => dats_ok r (dats_map _)
theorem RUs.of {w : Wd} : ∀ {ds : List PyData} {vs : List V}, RpL w.F ds vs → RUs w (ds.map U.d) vs
  | _, _, .nil => .nil
  | _, _, .cons h r => .cons h (RUs.of r)
/-- (a, b, ..) of data -/
def wTup (wr : WA) : WE := fun ρ M Q => wr ρ M fun us M1 => ∃ ds, dats us = some ds ∧ ds.length ≤ sizeLine ∧ Q (.d (.tuple ds)) M1
theorem le_tup (hr : LA tr wr) : LE (tTup tr) (wTup wr) := fun _ _ _ _ _ _ _ h e hq o =>
  hr h e hq fun us _ vs _ _ s1 h1 r1 q1 => by
    obtain ⟨ds, e1, hl, q⟩ := q1
    have r := dats_ok r1 e1
    refine ⟨by rw [← r.length]; exact hl, fun p hp => ?_⟩
    exact (o.trans s1 h1) _ _ _ _ _ (Step.put h1 hp) (h1.put hp) (RU.D (.tup Wd.putF (r.mono (same_put (h1.newF hp))))) q
/-- [a, b, ..] of data -/
def wLst (wr : WA) : WE := fun ρ M Q => wr ρ M fun us M1 => ∃ ds, dats us = some ds ∧ ds.length ≤ sizeLine ∧ Q (.d (.list ds)) M1
theorem le_lst (hr : LA tr wr) : LE (tLst tr) (wLst wr) := fun _ _ _ _ _ _ _ h e hq o =>
  hr h e hq fun us _ vs _ _ s1 h1 r1 q1 => by
    obtain ⟨ds, e1, hl, q⟩ := q1
    have r := dats_ok r1 e1
    refine ⟨by rw [← r.length]; exact hl, fun p hp => ?_⟩
    exact (o.trans s1 h1) _ _ _ _ _ (Step.put h1 hp) (h1.put hp) (RU.D (.lst Wd.putF (r.mono (same_put (h1.newF hp))))) q
/-- [a, b, ..]: a new cell of data -/
def wLstC (wr : WA) : WE := fun ρ M Q => wr ρ M fun us M1 => ∃ ds, dats us = some ds ∧ ds.length ≤ sizeLine ∧ Q (.p M1.length) (M1 ++ [.lst ds])
theorem le_lstC (hr : LA tr wr) : LE (tLst tr) (wLstC wr) := fun _ _ _ _ _ _ _ h e hq o =>
  hr h e hq fun us _ vs _ _ s1 h1 r1 q1 => by
    obtain ⟨ds, e1, hl, q⟩ := q1
    have r := dats_ok r1 e1
    refine ⟨by rw [← r.length]; exact hl, fun p hp => ?_⟩
    exact (o.trans s1 h1) _ _ _ _ _ (Step.cell h1 hp) (h1.cell' hp (RO.L r)) (RU.P (Wd.cell_at h1)) q
/-- [a, b, ..], (a, b, ..): a new cell of values -/
def wLstP (wr : WA) : WE := fun ρ M Q => wr ρ M fun us M1 => us.length ≤ sizeLine ∧ Q (.p M1.length) (M1 ++ [.lsp us])
theorem le_lstP (hr : LA tr wr) : LE (tLst tr) (wLstP wr) := fun _ _ _ _ _ _ _ h e hq o =>
  hr h e hq fun us _ vs _ _ s1 h1 r1 q1 => by
    obtain ⟨hl, q⟩ := q1
    refine ⟨by rw [← Paired.length r1]; exact hl, fun p hp => ?_⟩
    exact (o.trans s1 h1) _ _ _ _ _ (Step.cell h1 hp) (h1.cell' hp (RO.LP (RUs.grow Grow.cell r1))) (RU.P (Wd.cell_at h1)) q
def wTupP (wr : WA) : WE := fun ρ M Q => wr ρ M fun us M1 => us.length ≤ sizeLine ∧ Q (.p M1.length) (M1 ++ [.tpp us])
theorem le_tupP (hr : LA tr wr) : LE (tTup tr) (wTupP wr) := fun _ _ _ _ _ _ _ h e hq o =>
  hr h e hq fun us _ vs _ _ s1 h1 r1 q1 => by
    obtain ⟨hl, q⟩ := q1
    refine ⟨by rw [← Paired.length r1]; exact hl, fun p hp => ?_⟩
    exact (o.trans s1 h1) _ _ _ _ _ (Step.cell h1 hp) (h1.cell' hp (RO.TP (RUs.grow Grow.cell r1))) (RU.P (Wd.cell_at h1)) q
def wCB (wc : List U → List Ob → (U → List Ob → Prop) → Prop) (wr : WA) : WE := fun ρ M Q => wr ρ M fun us M1 => wc us M1 Q
theorem le_cb {r : List V → Hp → VK → Prop} {wc : List U → List Ob → (U → List Ob → Prop) → Prop} (hc : LC r wc) (hr : LA tr wr) : LE (tCB r tr) (wCB wc wr) := fun _ _ _ _ _ _ _ h e hq o =>
  hr h e hq fun us _ vs _ _ s1 h1 r1 q1 => hc h1 r1 q1 (o.trans s1 h1)
end
/-! ### statements -/
section
variable {ta tb te : TE} {wa wb we : WE} {t u : TS} {wt wu : WS} {tt : TT} {wq : WT} {g : TG} {wg : WG}
def wNext : WS := fun D ρ M => D.nx ρ M
theorem ls_next : LS tNext wNext := fun _ _ _ _ _ _ _ h e hq o => o.nx _ _ _ _ _ (Step.refl _ _) h e hq
def wSeq (wt wu : WS) : WS := fun D ρ M => wt { D with nx := wu D } ρ M
theorem ls_seq (ht : LS t wt) (hu : LS u wu) : LS (tSeq t u) (wSeq wt wu) := fun _ _ _ _ _ _ _ h e hq o =>
  ht h e hq ⟨fun _ _ _ _ _ s1 h1 e1 q1 => hu h1 e1 q1 (o.trans s1 h1), o.rt, o.bk, o.ct⟩
def wBreak : WS := fun D ρ M => D.bk ρ M
theorem ls_break : LS tBreak wBreak := fun _ _ _ _ _ _ _ h e hq o => o.bk _ _ _ _ _ (Step.refl _ _) h e hq
def wCont : WS := fun D ρ M => D.ct ρ M
theorem ls_cont : LS tCont wCont := fun _ _ _ _ _ _ _ h e hq o => o.ct _ _ _ _ _ (Step.refl _ _) h e hq
def wDrop (we : WE) : WS := fun D ρ M => we ρ M fun _ M1 => D.nx ρ M1
theorem ls_drop (he : LE te we) : LS (tDrop te) (wDrop we) := fun _ _ _ _ _ _ _ h e hq o =>
  he h e hq fun _ _ _ _ _ s1 h1 _ q1 => o.nx _ _ _ _ _ s1 h1 (e.grow s1.grow) q1
def wRet (we : WE) : WS := fun D ρ M => we ρ M D.rt
theorem ls_ret (he : LE te we) : LS (tRet te) (wRet we) := fun _ _ _ _ _ _ _ h e hq o => he h e hq o.rt
def wRetN : WS := fun D _ M => D.rt (.d .none) M
theorem ls_retN : LS tRetN wRetN := fun _ _ _ _ _ _ _ h e hq o => o.rt.here h (RU.D Rp.non) hq
def wIfS (wq : WT) (wt wu : WS) : WS := fun D ρ M => wq ρ M fun b M1 => if b = true then wt D ρ M1 else wu D ρ M1
theorem ls_if (hq : LT tt wq) (ht : LS t wt) (hu : LS u wu) : LS (tIfS tt t u) (wIfS wq wt wu) := fun _ _ _ _ _ _ _ h e q o =>
  hq h e q fun b _ c _ _ s1 h1 r1 q1 => by
    have r : b = c := r1
    subst r
    cases b with
    | true => exact ht h1 (e.grow s1.grow) q1 (o.trans s1 h1)
    | false => exact hu h1 (e.grow s1.grow) q1 (o.trans s1 h1)
/-! targets -/
def wName (i : Nat) : WG := fun u ρ M Q => Q (ρ.set i (some u)) M
theorem lg_name {i : Nat} : LG (gName i) (wName i) := fun _ _ _ _ _ _ _ _ _ h e r hq o => o _ _ _ _ _ (Step.refl _ _) h (e.set r i) hq
def wgNil : WGs := fun us ρ M Q => us = [] ∧ Q ρ M
theorem lgs_nil : LGs gNil wgNil := fun _ _ _ _ _ _ _ _ _ h e r hq o => by
  obtain ⟨rfl, q⟩ := hq
  cases r
  exact ⟨rfl, o _ _ _ _ _ (Step.refl _ _) h e q⟩
def wgCons (wg : WG) (wr : WGs) : WGs := fun us ρ M Q => ∃ u r, us = u :: r ∧ wg u ρ M fun ρ' M' => wr r ρ' M' Q
theorem lgs_cons {gr : TGs} {wr : WGs} (hg : LG g wg) (hr : LGs gr wr) : LGs (gCons g gr) (wgCons wg wr) := fun _ _ _ _ _ _ _ _ _ h e r hq o => by
  obtain ⟨u, us, rfl, q⟩ := hq
  cases r with
  | cons r rs => exact ⟨_, _, rfl, hg h e r q fun _ _ _ _ _ s1 h1 e1 q1 => hr h1 e1 (RUs.grow s1.grow rs) q1 (o.trans s1 h1)⟩
/-- the items of a tuple -/
def tupU (M : List Ob) : U → Option (List U)
  | .d (.tuple ds) => some (ds.map U.d)
  | .p n => match M[n]? with
    | some (.tpp us) => some us
    | _ => none
  | _ => none
theorem tupU_ok {w : Wd} {M : List Ob} {H : Hp} (h : Hold w M H) {u : U} {v : V} (r : RU w u v) {us : List U} (e : tupU M u = some us) : ∃ a vs, v = .ref a ∧ H a = some (.tup vs) ∧ RUs w us vs := by
  cases u with
  | d d =>
    cases d with
    | tuple ds =>
      cases e
      cases r with
      | tup h1 h2 => exact ⟨_, _, rfl, h.sub _ _ h1, RUs.of h2⟩
    | _ => cases e
  | p n =>
    obtain ⟨a, ha, rfl⟩ := r
    have e' : (match M[n]? with | some (.tpp us) => some us | _ => none) = some us := e
    cases hm : M[n]? with
    | none => rw [hm] at e'; cases e'
    | some m =>
      rw [hm] at e'
      cases m with
      | tpp ws =>
        cases e'
        obtain ⟨o, ho, q⟩ := h.cell n a _ ha hm
        rcases q with q | ⟨_, vs, rfl, q⟩
        · cases q
        · exact ⟨a, vs, rfl, ho, q⟩
      | _ => cases e'
  | v x => cases e
  | s K ns => cases e
def wgTup (n : Nat) (wr : WGs) : WG := fun u ρ M Q => ∃ us, tupU M u = some us ∧ us.length = n ∧ wr us ρ M Q
theorem lg_tup {K : PySem.W.Frag} {n : Nat} {gr : TGs} {wr : WGs} (hr : LGs gr wr) : LG (gTup K n gr) (wgTup n wr) := fun _ _ _ _ _ _ _ _ _ h e r hq o => by
  obtain ⟨us, e1, hl, q⟩ := hq
  obtain ⟨a, vs, rfl, ha, rs⟩ := tupU_ok h r e1
  exact ⟨a, vs, rfl, SqT.of ha, by rw [← Paired.length rs]; exact hl, hr h e rs q o⟩
def wAsg (we : WE) (wg : WG) : WS := fun D ρ M => we ρ M fun x M1 => wg x ρ M1 D.nx
theorem ls_asg (he : LE te we) (hg : LG g wg) : LS (tAsg te g) (wAsg we wg) := fun _ _ _ _ _ _ _ h e hq o =>
  he h e hq fun _ _ _ _ _ s1 h1 r1 q1 => hg h1 (e.grow s1.grow) r1 q1 (o.nx.trans s1 h1)
/-! while -/
def wWhile (wq : WT) (wt : WS) : WS := fun D ρ M => ∃ W : Nat → Rho → List Ob → Prop, (∃ m, W m ρ M) ∧ ∀ m ρ M, W m ρ M →
  wq ρ M fun b M1 => if b = true then wt { D with nx := fun ρ' M' => ∃ m', m' < m ∧ W m' ρ' M', ct := fun ρ' M' => ∃ m', m' < m ∧ W m' ρ' M', bk := D.nx } ρ M1 else D.nx ρ M1
theorem ls_while (hq : LT tt wq) (ht : LS t wt) : LS (tWhile tt t) (wWhile wq wt) := fun w M H σ ρ De E h e q o => by
  obtain ⟨W, ⟨m0, w0⟩, turn⟩ := q
  refine ⟨fun m σ' H' => ∃ w' M' ρ', Step w H w' H' ∧ Hold w' M' H' ∧ Env w' σ' ρ' ∧ W m ρ' M', ⟨m0, w, M, ρ, Step.refl _ _, h, e, w0⟩, ?_⟩
  rintro m σ' H' ⟨w', M', ρ', s', h', e', hw⟩
  refine hq h' e' (turn m ρ' M' hw) fun b M1 c w1 H1 s1 h1 r1 q1 => ?_
  have r : b = c := r1
  subst r
  have s2 := s'.trans h' s1
  cases b with
  | true =>
    refine ⟨fun σ2 H2 => ∃ m', m' < m ∧ ∃ w' M' ρ', Step w H w' H2 ∧ Hold w' M' H2 ∧ Env w' σ2 ρ' ∧ W m' ρ' M', fun σ2 H2 k => k, ?_⟩
    refine ht h1 (e'.grow s1.grow) q1 ⟨?_, o.rt.trans s2 h1, o.nx.trans s2 h1, ?_⟩
    · rintro ρ3 M3 σ3 w3 H3 s3 h3 e3 ⟨m', hm, hw'⟩
      exact ⟨m', hm, w3, M3, ρ3, s2.trans h1 s3, h3, e3, hw'⟩
    · rintro ρ3 M3 σ3 w3 H3 s3 h3 e3 ⟨m', hm, hw'⟩
      exact ⟨m', hm, w3, M3, ρ3, s2.trans h1 s3, h3, e3, hw'⟩
  | false => exact o.nx _ _ _ _ _ s2 h1 (e'.grow s1.grow) q1
end
end DL

namespace DL
open PySem L2

/-- what a value reads as -/
def view (M : List Ob) : U → Option PyData
  | .d d => some d
  | .p n => match M[n]? with
    | some (.lst ds) => some (.list ds)
    | _ => none
  | _ => none
/-- a view's value: lists stand in the heap -/
def Vw (F H : Hp) : PyData → V → Prop
  | .list ds, v => ∃ p vs, v = .ref p ∧ H p = some (.lst vs) ∧ RpL F ds vs
  | d, v => Rp F d v
section
variable {w : Wd} {M : List Ob} {H : Hp} {u : U} {v : V} {d : PyData}
theorem vw_of (e : Same w.F H) (h : Rp w.F d v) : Vw w.F H d v := by
  cases h with
  | lst h r => exact ⟨_, _, rfl, e _ _ h, r⟩
  | tup h r => exact .tup h r
  | non => exact .non
  | bl b => exact .bl b
  | int i => exact .int i
  | str x => exact .str x
theorem view_ok (h : Hold w M H) (r : RU w u v) (e : view M u = some d) : Vw w.F H d v := by
  cases u with
  | d d' => cases e; exact vw_of h.sub r
  | p n =>
    obtain ⟨a, ha, rfl⟩ := r
    have e' : (match M[n]? with | some (.lst ds) => some (PyData.list ds) | _ => none) = some d := e
    cases hm : M[n]? with
    | none => rw [hm] at e'; cases e'
    | some m =>
      rw [hm] at e'
      cases m with
      | lst ds =>
        cases e'
        obtain ⟨o, ho, q⟩ := h.cell n a _ ha hm
        rcases q with q | ⟨_, vs, rfl, q⟩
        · cases q
        · exact ⟨a, vs, rfl, ho, q⟩
      | _ => cases e'
  | v x => cases e
  | s K ns => cases e
theorem Vw.dp {K : PySem.W.Frag} (e : Same w.F H) : ∀ {d : PyData} {v : V}, Vw w.F H d v → Dp K H v d
  | .list ds, _, ⟨p, vs, rfl, h, r⟩ => .lst (SqL.of h) (r.dp e)
  | .tuple ds, _, h => Rp.dp e h
  | .none, _, h => Rp.dp e h
  | .bool _, _, h => Rp.dp e h
  | .int _, _, h => Rp.dp e h
  | .str _, _, h => Rp.dp e h
  | .dict _, _, h => Rp.dp e h
theorem vw_int {i : Int} (h : Vw w.F H (.int i) v) : v = .int i := by cases (show Rp w.F (.int i) v from h); rfl
theorem vw_bool {i : Bool} (h : Vw w.F H (.bool i) v) : v = .bl i := by cases (show Rp w.F (.bool i) v from h); rfl
theorem vw_str {i : Str} (h : Vw w.F H (.str i) v) : v = .str i := by cases (show Rp w.F (.str i) v from h); rfl
theorem vw_tup {ds : List PyData} (e : Same w.F H) (h : Vw w.F H (.tuple ds) v) : ∃ p vs, v = .ref p ∧ H p = some (.tup vs) ∧ RpL w.F ds vs ∧ Rp w.F (.tuple ds) (.ref p) := by
  cases (show Rp w.F (.tuple ds) v from h) with
  | tup h1 r1 => exact ⟨_, _, rfl, e _ _ h1, r1, .tup h1 r1⟩
theorem vw_none (h : Vw w.F H .none v) : v = .non := by cases (show Rp w.F .none v from h); rfl
end

/-- an operation on data -/
def wF2 (f : PyData → PyData → Option (PyData × Prop)) : R2' := fun x y M Q => ∃ a b z C, view M x = some a ∧ view M y = some b ∧ f a b = some (z, C) ∧ C ∧ Q (.d z) M
def wF1 (f : PyData → Option (PyData × Prop)) : U → List Ob → (U → List Ob → Prop) → Prop := fun x M Q => ∃ a z C, view M x = some a ∧ f a = some (z, C) ∧ C ∧ Q (.d z) M
/-- scalars: no allocation -/
def Scl (r : R2) (f : PyData → PyData → Option (PyData × Prop)) : Prop := ∀ {w : Wd} {H : Hp} {a b z : PyData} {C : Prop} {x y : V} {Q : VK}, Same w.F H → Vw w.F H a x → Vw w.F H b y → f a b = some (z, C) → C →
  (∀ v w', Rp w'.F z v → Step w H w' H → (∀ M, Hold w M H → Hold w' M H) → Q v H) → (∀ v p o, Rp (w.put p o).F z v → v = .ref p → H p = none → Q v (upd H p o)) → r x y H Q
theorem lr_of {r : R2} {f : PyData → PyData → Option (PyData × Prop)} (s : Scl r f) : LR r (wF2 f) := fun w M H x y vx vy Qu Q h rx ry hq o => by
  obtain ⟨a, b, z, C, ea, eb, ez, hC, q⟩ := hq
  refine s h.sub (view_ok h rx ea) (view_ok h ry eb) ez hC (fun v w' r' s' k => ?_) fun v p ob r' hv hp => ?_
  · exact o _ _ _ _ _ s' (k M h) (RU.D r') q
  · exact o _ _ _ _ _ (Step.put h hp) (h.put hp) (RU.D r') q
/-- int, int -/
def fII (g : Int → Int → PyData) (C : Int → Int → Prop) : PyData → PyData → Option (PyData × Prop)
  | .int i, .int j => some (g i j, C i j)
  | _, _ => none
theorem fII_inv {g : Int → Int → PyData} {C : Int → Int → Prop} {a b z : PyData} {D : Prop} (e : fII g C a b = some (z, D)) : ∃ i j, a = .int i ∧ b = .int j ∧ z = g i j ∧ D = C i j := by
  unfold fII at e
  split at e
  · cases e; exact ⟨_, _, rfl, rfl, rfl, rfl⟩
  · cases e
theorem lr_I {g : Int → Int → V} {g' : Int → Int → PyData} {C : Int → Int → Prop} (k : ∀ F i j, Rp F (g' i j) (g i j)) : LR (rI C g) (wF2 (fII g' C)) := lr_of fun {w H a b z D x y Q} e va vb ez hC q1 q2 => by
  obtain ⟨i, j, rfl, rfl, rfl, rfl⟩ := fII_inv ez
  exact ⟨i, j, vw_int va, vw_int vb, hC, q1 _ w (k _ i j) (Step.refl _ _) fun _ h => h⟩
theorem lr_I0 {g : Int → Int → V} {g' : Int → Int → PyData} (k : ∀ F i j, Rp F (g' i j) (g i j)) : LR (rI0 g) (wF2 (fII g' fun _ _ => True)) := lr_of fun {w H a b z D x y Q} e va vb ez hC q1 q2 => by
  obtain ⟨i, j, rfl, rfl, rfl, rfl⟩ := fII_inv ez
  exact ⟨i, j, vw_int va, vw_int vb, q1 _ w (k _ i j) (Step.refl _ _) fun _ h => h⟩
abbrev wAddI : R2' := wF2 (fII (fun i j => .int (i + j)) fun _ _ => True)
abbrev wSub : R2' := wF2 (fII (fun i j => .int (i - j)) fun _ _ => True)
abbrev wMul : R2' := wF2 (fII (fun i j => .int (i * j)) CMul)
abbrev wMod : R2' := wF2 (fII (fun i j => .int (i % j)) fun _ j => 0 < j)
abbrev wDivW : R2' := wF2 (fII (fun i j => .int (i / j)) CDivW)
abbrev wPow : R2' := wF2 (fII (fun i j => .int (i ^ j.toNat)) CPow)
abbrev wLt : R2' := wF2 (fII (fun i j => .bool (decide (i < j))) fun _ _ => True)
abbrev wLe : R2' := wF2 (fII (fun i j => .bool (decide (i ≤ j))) fun _ _ => True)
abbrev wGt : R2' := wF2 (fII (fun i j => .bool (decide (j < i))) fun _ _ => True)
abbrev wGe : R2' := wF2 (fII (fun i j => .bool (decide (j ≤ i))) fun _ _ => True)
theorem lr_addI : LR (rI0 fun i j => .int (i + j)) wAddI := lr_I0 fun _ i j => .int _
theorem lr_sub : LR (rI0 fun i j => .int (i - j)) wSub := lr_I0 fun _ i j => .int _
theorem lr_mul : LR (rI CMul fun i j => .int (i * j)) wMul := lr_I fun _ i j => .int _
theorem lr_mod : LR (rI (fun _ j => 0 < j) fun i j => .int (i % j)) wMod := lr_I fun _ i j => .int _
theorem lr_divW : LR (rI CDivW fun i j => .int (i / j)) wDivW := lr_I fun _ i j => .int _
theorem lr_pow : LR (rI CPow fun i j => .int (i ^ j.toNat)) wPow := lr_I fun _ i j => .int _
theorem lr_lt : LR (rI0 fun i j => .bl (decide (i < j))) wLt := lr_I0 fun _ i j => .bl _
theorem lr_le : LR (rI0 fun i j => .bl (decide (i ≤ j))) wLe := lr_I0 fun _ i j => .bl _
theorem lr_gt : LR (rI0 fun i j => .bl (decide (j < i))) wGt := lr_I0 fun _ i j => .bl _
theorem lr_ge : LR (rI0 fun i j => .bl (decide (j ≤ i))) wGe := lr_I0 fun _ i j => .bl _

/-- + of ints, texts, lists, tuples -/
abbrev rStrAdd : R2 := fun x y H Q => ∃ i j, x = .str i ∧ y = .str j ∧ i.length + j.length ≤ sizeLine ∧ Q (.str (i ++ j)) H
def rAddAll (K : PySem.W.Frag) : R2 := fun x y H Q => (rI0 (fun i j => .int (i + j)) x y H Q ∨ rStrAdd x y H Q) ∨ (rCat x y H Q ∨ rCatA K x y H Q)
theorem op_addAll {X : Cx} : OpR X (binaryOp .Add) (rAddAll X.K) := OpR.or (OpR.or op_add op_add_str) (OpR.or op_cat op_catA)
def fAdd : PyData → PyData → Option (PyData × Prop)
  | .int i, .int j => some (.int (i + j), True)
  | .str i, .str j => some (.str (i ++ j), i.length + j.length ≤ sizeLine)
  | .list i, .list j => some (.list (i ++ j), i.length + j.length ≤ sizeLine)
  | .tuple i, .tuple j => some (.tuple (i ++ j), i.length + j.length ≤ sizeLine)
  | _, _ => none
abbrev wAdd : R2' := wF2 fAdd
theorem nil_of_len {α β : Type} {xs : List α} {ys : List β} (h : xs.length = ys.length) (e : ys = []) : xs = [] := by
  subst e; exact List.length_eq_zero_iff.mp (by simpa using h)
theorem lr_add {K : PySem.W.Frag} : LR (rAddAll K) wAdd := lr_of fun {w H a b z D x y Q} e va vb ez hC q1 q2 => by
  unfold fAdd at ez
  split at ez
  · cases ez
    exact .inl (.inl ⟨_, _, vw_int va, vw_int vb, q1 _ w (.int _) (Step.refl _ _) fun _ h => h⟩)
  · cases ez
    exact .inl (.inr ⟨_, _, vw_str va, vw_str vb, hC, q1 _ w (.str _) (Step.refl _ _) fun _ h => h⟩)
  · cases ez
    obtain ⟨p, vs, rfl, hp, r1⟩ := va
    obtain ⟨q, ws, rfl, hq, r2⟩ := vb
    refine .inr (.inl ⟨p, q, vs, ws, rfl, rfl, hp, hq, by rw [← r1.length, ← r2.length]; exact hC, fun l hl => ?_⟩)
    have hF : w.F l = none := none_back (e l) hl
    exact q2 _ l _ (.lst Wd.putF ((r1.append r2).mono (same_put hF))) rfl hl
  · cases ez
    obtain ⟨p, vs, rfl, hp, r1, k1⟩ := vw_tup e va
    obtain ⟨q, ws, rfl, hq, r2, k2⟩ := vw_tup e vb
    refine .inr (.inr ⟨p, q, vs, ws, rfl, rfl, SqT.of hp, SqT.of hq, by rw [← r1.length, ← r2.length]; exact hC, fun e1 => ?_, fun _ e1 => ?_, fun _ _ l hl => ?_⟩)
    · have e2 := nil_of_len r1.length e1
      subst e2
      exact q1 _ w (by simpa using k2) (Step.refl _ _) fun _ h => h
    · have e2 := nil_of_len r2.length e1
      subst e2
      exact q1 _ w (by simpa using k1) (Step.refl _ _) fun _ h => h
    · have hF : w.F l = none := none_back (e l) hl
      exact q2 _ l _ (.tup Wd.putF ((r1.append r2).mono (same_put hF))) rfl hl
  · cases ez
/-- list * int, int * int -/
def rMulAll : R2 := fun x y H Q => rI CMul (fun i j => .int (i * j)) x y H Q ∨ rRep x y H Q
theorem op_mulAll {X : Cx} : OpR X (binaryOp .Mult) rMulAll := OpR.or op_mul op_rep
def fMul : PyData → PyData → Option (PyData × Prop)
  | .int i, .int j => some (.int (i * j), CMul i j)
  | .list i, .int j => some (.list (List.replicate j.toNat i).flatten, -(2 ^ 63) ≤ j ∧ j < 2 ^ 63 ∧ i.length * j.toNat ≤ sizeLine)
  | _, _ => none
abbrev wMulA : R2' := wF2 fMul
theorem lr_mulA : LR rMulAll wMulA := lr_of fun {w H a b z D x y Q} e va vb ez hC q1 q2 => by
  unfold fMul at ez
  split at ez
  · cases ez
    exact .inl ⟨_, _, vw_int va, vw_int vb, hC, q1 _ w (.int _) (Step.refl _ _) fun _ h => h⟩
  · cases ez
    obtain ⟨p, vs, rfl, hp, r1⟩ := va
    refine .inr ⟨p, _, vs, rfl, vw_int vb, hp, hC.1, hC.2.1, by rw [← r1.length]; exact hC.2.2, fun l hl => ?_⟩
    have hF : w.F l = none := none_back (e l) hl
    exact q2 _ l _ (.lst Wd.putF ((r1.flatRep _).mono (same_put hF))) rfl hl
  · cases ez
/-- ==, != of data -/
def scl2 : PyData → PyData → Bool
  | .none, .none | .none, .int _ | .int _, .none | .none, .str _ | .str _, .none | .none, .bool _ | .bool _, .none => true
  | .int _, .int _ | .bool _, .bool _ | .str _, .str _ => true
  | _, _ => false
def eqOk (a b : PyData) : Prop := scl2 a b = true ∨ (SeqAt.shaped a = true ∧ SeqAt.shaped b = true)
def rEqAll (K : PySem.W.Frag) : R2 := fun x y H Q => rEq x y H Q ∨ rEqD K x y H Q
def rNeAll (K : PySem.W.Frag) : R2 := fun x y H Q => rNe x y H Q ∨ rNeD K x y H Q
theorem op_eqAll {X : Cx} (hu : X.A.units + 64 < cLine) : OpR X (compareOp .Eq) (rEqAll X.K) := OpR.or op_eq (op_eqD hu)
theorem op_neAll {X : Cx} (hu : X.A.units + 64 < cLine) : OpR X (compareOp .NotEq) (rNeAll X.K) := OpR.or op_ne (op_neD hu)
def fEq (a b : PyData) : Option (PyData × Prop) := some (.bool (PyData.eqv a b), eqOk a b)
def fNe (a b : PyData) : Option (PyData × Prop) := some (.bool (!PyData.eqv a b), eqOk a b)
abbrev wEq : R2' := wF2 fEq
abbrev wNe : R2' := wF2 fNe
theorem scl_ok {w : Wd} {H : Hp} {a b : PyData} {x y : V} (va : Vw w.F H a x) (vb : Vw w.F H b y) (h : scl2 a b = true) : scal x y = true ∧ decide (x = y) = PyData.eqv a b := by
  unfold scl2 at h
  split at h <;> first
    | (cases (show Rp w.F _ x from va); cases (show Rp w.F _ y from vb); refine ⟨rfl, ?_⟩; first | rfl | (simp only [PyData.eqv]; rw [Bool.eq_iff_iff, decide_eq_true_iff, beq_iff_eq]; simp) | (simp [PyData.eqv]))
    | cases h
theorem lr_eq {K : PySem.W.Frag} : LR (rEqAll K) wEq := lr_of fun {w H a b z D x y Q} e va vb ez hC q1 q2 => by
  cases ez
  rcases hC with hC | hC
  · obtain ⟨h1, h2⟩ := scl_ok va vb hC
    refine .inl ⟨h1, ?_⟩
    rw [h2]
    exact q1 _ w (.bl _) (Step.refl _ _) fun _ h => h
  · exact .inr ⟨a, b, va.dp e, vb.dp e, hC.1, hC.2, q1 _ w (.bl _) (Step.refl _ _) fun _ h => h⟩
theorem lr_ne {K : PySem.W.Frag} : LR (rNeAll K) wNe := lr_of fun {w H a b z D x y Q} e va vb ez hC q1 q2 => by
  cases ez
  rcases hC with hC | hC
  · obtain ⟨h1, h2⟩ := scl_ok va vb hC
    refine .inl ⟨h1, ?_⟩
    rw [h2]
    exact q1 _ w (.bl _) (Step.refl _ _) fun _ h => h
  · exact .inr ⟨a, b, va.dp e, vb.dp e, hC.1, hC.2, q1 _ w (.bl _) (Step.refl _ _) fun _ h => h⟩
end DL

namespace DL
open PySem L2

/-! ### items and slices -/
theorem atI_rep {F : Hp} {ds : List PyData} {vs : List V} (r : RpL F ds vs) {i : Int} {d : PyData} (h : atI ds i = some d) : ∃ v, atI vs i = some v ∧ Rp F d v := by
  unfold atI at h ⊢
  rw [r.length] at h
  cases e : ixN vs.length i with
  | none => rw [e] at h; cases h
  | some j => rw [e] at h; exact r.get h
def ixD : PyData → Int → PyData → Prop
  | .list ds, i, d => atI ds i = some d
  | .tuple ds, i, d => atI ds i = some d
  | .str z, i, d => ∃ c, z.length ≤ sizeLine ∧ atI z.cps.toList i = some c ∧ d = .str ⟨#[c]⟩
  | _, _, _ => False
def wIx : R2' := fun x y M Q => ∃ a i d, view M x = some a ∧ view M y = some (.int i) ∧ ixD a i d ∧ Q (.d d) M
theorem ix_all {X : Cx} : IxR X (rIx X.K) := IxR.or ix_list (IxR.or ix_tup ix_str)
theorem lr_ix {K : PySem.W.Frag} : LR (rIx K) wIx := fun w M H x y vx vy Qu Q h rx ry hq o => by
  obtain ⟨a, i, d, ea, ei, hx, q⟩ := hq
  have va := view_ok h rx ea
  have vi := vw_int (view_ok h ry ei)
  cases a with
  | list ds =>
    obtain ⟨p, vs, rfl, hp, r⟩ := va
    obtain ⟨v, h1, h2⟩ := atI_rep r hx
    exact .inl ⟨p, vs, i, v, rfl, vi, SqL.of hp, h1, o.here h (RU.D h2) q⟩
  | tuple ds =>
    obtain ⟨p, vs, rfl, hp, r, _⟩ := vw_tup h.sub va
    obtain ⟨v, h1, h2⟩ := atI_rep r hx
    exact .inr (.inl ⟨p, vs, i, v, rfl, vi, SqT.of hp, h1, o.here h (RU.D h2) q⟩)
  | str z =>
    obtain ⟨c, hz, h1, rfl⟩ := hx
    exact .inr (.inr ⟨z, i, c, vw_str va, vi, hz, h1, o.here h (RU.D (.str _)) q⟩)
  | _ => exact hx.elim
/-- an item of a cell of values -/
def wIxP : R2' := fun x y M Q => ∃ n us i u, x = .p n ∧ (M[n]? = some (.lsp us) ∨ M[n]? = some (.tpp us)) ∧ view M y = some (.int i) ∧ atI us i = some u ∧ Q u M
theorem atI_repU {w : Wd} {us : List U} {vs : List V} (r : RUs w us vs) {i : Int} {d : U} (h : atI us i = some d) : ∃ v, atI vs i = some v ∧ RU w d v := by
  have get : ∀ {us : List U} {vs : List V}, RUs w us vs → ∀ {j : Nat} {d : U}, us[j]? = some d → ∃ v, vs[j]? = some v ∧ RU w d v := by
    intro us vs r
    induction r with
    | nil => intro j d h; simp at h
    | cons h1 _ ih =>
      intro j d h
      cases j with
      | zero => simp at h; subst h; exact ⟨_, rfl, h1⟩
      | succ j => simpa using ih (by simpa using h)
  unfold atI at h ⊢
  rw [Paired.length r] at h
  cases e : ixN vs.length i with
  | none => rw [e] at h; cases h
  | some j => rw [e] at h; exact get r h
theorem lr_ixP {K : PySem.W.Frag} : LR (rIx K) wIxP := fun w M H x y vx vy Qu Q h rx ry hq o => by
  obtain ⟨n, us, i, u, rfl, hm, ei, hx, q⟩ := hq
  have vi := vw_int (view_ok h ry ei)
  obtain ⟨a, ha, rfl⟩ := rx
  rcases hm with hm | hm
  · obtain ⟨ob, ho, e⟩ := h.cell n a _ ha hm
    rcases e with e | ⟨_, vs, rfl, r⟩
    · cases e
    · obtain ⟨v, h1, h2⟩ := atI_repU r hx
      exact .inl ⟨a, vs, i, v, rfl, vi, SqL.of ho, h1, o.here h h2 q⟩
  · obtain ⟨ob, ho, e⟩ := h.cell n a _ ha hm
    rcases e with e | ⟨_, vs, rfl, r⟩
    · cases e
    · obtain ⟨v, h1, h2⟩ := atI_repU r hx
      exact .inr (.inl ⟨a, vs, i, v, rfl, vi, SqT.of ho, h1, o.here h h2 q⟩)
abbrev WO := Rho → List Ob → (Option Int → List Ob → Prop) → Prop
def LO (te : TO) (we : WO) : Prop := ∀ ⦃w : Wd⦄ ⦃M : List Ob⦄ ⦃H : Hp⦄ ⦃σ : L2.St⦄ ⦃ρ : Rho⦄ ⦃Qu : Option Int → List Ob → Prop⦄ ⦃Q : Option Int → Hp → Prop⦄, Hold w M H → Env w σ ρ → we ρ M Qu → Out (fun _ a b => a = b) w H Qu Q → te σ H Q
def wNoPart : WO := fun _ M Q => Q none M
def wPart (we : WE) : WO := fun ρ M Q => we ρ M fun x M1 => ∃ i, view M1 x = some (.int i) ∧ Q (some i) M1
theorem lo_none : LO tNoPart wNoPart := fun _ _ _ _ _ _ _ h _ hq o => o.here h rfl hq
theorem lo_some {te : TE} {we : WE} (he : LE te we) : LO (tPart te) (wPart we) := fun _ _ _ _ _ _ _ h e hq o =>
  he h e hq fun _ _ _ _ _ s1 h1 r1 q1 => by
    obtain ⟨i, e1, q⟩ := q1
    exact ⟨i, vw_int (view_ok h1 r1 e1), (o.trans s1 h1).here h1 rfl q⟩
def cutD {α : Type} (xs : List α) (lo hi : Option Int) : List α := List.take (HT.sIx xs.length xs.length hi - HT.sIx xs.length 0 lo) (List.drop (HT.sIx xs.length 0 lo) xs)
theorem cut_rep {F : Hp} {ds : List PyData} {vs : List V} (r : RpL F ds vs) (lo hi : Option Int) : RpL F (cutD ds lo hi) (cutV vs lo hi) := by
  unfold cutD cutV
  rw [r.length]
  exact (r.drop _).take _
def fCut : PyData → Option Int → Option Int → Option (PyData × Prop)
  | .list ds, lo, hi => some (.list (cutD ds lo hi), True)
  | .tuple ds, lo, hi => some (.tuple (cutD ds lo hi), True)
  | .str z, lo, hi => some (.str (cutS z lo hi), z.length ≤ sizeLine)
  | _, _, _ => none
def rSlAll (K : PySem.W.Frag) : V → Option Int → Option Int → Hp → VK → Prop := fun x lo hi H Q => rSlL K x lo hi H Q ∨ (rSlA K x lo hi H Q ∨ rSlS x lo hi H Q)
theorem sl_all {X : Cx} : SlR X (rSlAll X.K) := SlR.or sl_list (SlR.or sl_tupA sl_str)
def wSl (we : WE) (wl wh : WO) : WE := fun ρ M Q => we ρ M fun x M1 => wl ρ M1 fun lo M2 => wh ρ M2 fun hi M3 => ∃ a z C, view M3 x = some a ∧ fCut a lo hi = some (z, C) ∧ C ∧ Q (.d z) M3
theorem le_sl {K : PySem.W.Frag} {te : TE} {tl th : TO} {we : WE} {wl wh : WO} (he : LE te we) (hl : LO tl wl) (hh : LO th wh) : LE (tSl (rSlAll K) te tl th) (wSl we wl wh) := fun _ _ _ _ _ _ _ h e hq o =>
  he h e hq fun x _ v _ _ s1 h1 r1 q1 => hl h1 (e.grow s1.grow) q1 fun lo _ lo' _ _ s2 h2 e2 q2 => hh h2 (e.grow (s1.trans h1 s2).grow) q2 fun hi M3 hi' w3 H3 s3 h3 e3 q3 => by
    have e2' : lo = lo' := e2
    have e3' : hi = hi' := e3
    subst e2' e3'
    obtain ⟨a, z, C, ea, ez, hC, q⟩ := q3
    have s13 := (s1.trans h1 s2).trans h2 s3
    have va := view_ok h3 (r1.grow (s2.trans h2 s3).grow) ea
    have o3 := o.trans s13 h3
    unfold fCut at ez
    split at ez
    · cases ez
      obtain ⟨p, vs, rfl, hp, r⟩ := va
      refine .inl ⟨p, vs, rfl, SqL.of hp, fun l hl => ?_⟩
      exact o3 _ _ _ _ _ (Step.put h3 hl) (h3.put hl) (RU.D (.lst Wd.putF ((cut_rep r _ _).mono (same_put (h3.newF hl))))) q
    · cases ez
      obtain ⟨p, vs, rfl, hp, r, k⟩ := vw_tup h3.sub va
      refine .inr (.inl ⟨p, vs, rfl, SqT.of hp, fun hw => ?_, fun _ l hl => ?_⟩)
      · have hd : ∀ ds : List PyData, ds.length = vs.length → cutD ds lo hi = ds := fun ds hd => by
          unfold cutD
          rw [hd, hw.1, hw.2, List.drop_zero, Nat.sub_zero, ← hd, List.take_length]
        rw [hd _ r.length] at q
        exact o3.here h3 (RU.D k) q
      · exact o3 _ _ _ _ _ (Step.put h3 hl) (h3.put hl) (RU.D (.tup Wd.putF ((cut_rep r _ _).mono (same_put (h3.newF hl))))) q
    · cases ez
      exact .inr (.inr ⟨_, vw_str va, hC, o3.here h3 (RU.D (.str _)) q⟩)
    · cases ez
/-! ### in, not in -/
abbrev rSign : R2 := fun x y H Q => ∃ (c : Nat) (z : Str), x = .str ⟨#[c]⟩ ∧ y = .str z ∧ Q (.bl (decide (c ∈ z.cps.toList))) H
abbrev rNSign : R2 := fun x y H Q => ∃ (c : Nat) (z : Str), x = .str ⟨#[c]⟩ ∧ y = .str z ∧ Q (.bl (!decide (c ∈ z.cps.toList))) H
def rInAll (K : PySem.W.Frag) : R2 := fun x y H Q => rInD K x y H Q ∨ (rIn K false x y H Q ∨ rSign x y H Q)
def rNotInAll (K : PySem.W.Frag) : R2 := fun x y H Q => rNotInD K x y H Q ∨ (rIn K true x y H Q ∨ rNSign x y H Q)
theorem op_inAll {X : Cx} (hu : X.A.units + 65 < cLine) : OpR X (compareOp .In) (rInAll X.K) := OpR.or (op_inD hu) (OpR.or op_in_seq op_in_sign)
theorem op_notInAll {X : Cx} (hu : X.A.units + 65 < cLine) : OpR X (compareOp .NotIn) (rNotInAll X.K) := OpR.or (op_notInD hu) (OpR.or op_notIn_seq op_notIn_sign)
def flatD : PyData → Bool
  | .none | .bool _ | .int _ | .str _ => true
  | _ => false
/-- x in y -/
def fIn (x : PyData) : PyData → Option (Bool × Prop)
  | .list ds => some (ds.any fun z => PyData.eqv z x, SeqAt.shaped x = true ∧ SeqAt.shaped (.list ds) = true)
  | .tuple ds => some (ds.any fun z => PyData.eqv z x, flatD x = true ∧ ds.all flatD = true)
  | .str z => match x with
    | .str t => match t.cps.toList with
      | [c] => some (decide (c ∈ z.cps.toList), True)
      | _ => none
    | _ => none
  | _ => none
theorem sign_eq {t : Str} {c : Nat} (h : t.cps.toList = [c]) : t = ⟨#[c]⟩ := by
  obtain ⟨⟨l⟩⟩ := t
  have h' : l = [c] := h
  subst h'; rfl
def wIn : R2' := fun x y M Q => ∃ a b z C, view M x = some a ∧ view M y = some b ∧ fIn a b = some (z, C) ∧ C ∧ Q (.d (.bool z)) M
def wNotIn : R2' := fun x y M Q => ∃ a b z C, view M x = some a ∧ view M y = some b ∧ fIn a b = some (z, C) ∧ C ∧ Q (.d (.bool !z)) M
theorem flat_rep {F : Hp} {d : PyData} {v : V} (r : Rp F d v) (h : flatD d = true) : flatV v = true ∧ ∀ e y, Rp F e y → flatD e = true → eqV v y = PyData.eqv d e := by
  cases r <;> first
    | (refine ⟨rfl, fun e y r2 h2 => ?_⟩
       cases r2 <;> first | (simp [eqV, PyData.eqv]; done) | (simp [eqV, PyData.eqv]; (repeat' split) <;> simp_all; done) | cases h2)
    | cases h
theorem flat_all {F : Hp} : ∀ {ds : List PyData} {vs : List V}, RpL F ds vs → ds.all flatD = true → vs.all flatV = true ∧ ∀ e y, Rp F e y → flatD e = true → inV y vs = ds.any fun z => PyData.eqv z e
  | _, _, .nil, _ => ⟨rfl, fun _ _ _ _ => rfl⟩
  | d :: ds, v :: vs, .cons r t, h => by
    rw [List.all_cons, Bool.and_eq_true] at h
    obtain ⟨h1, h2⟩ := flat_rep r h.1
    obtain ⟨h3, h4⟩ := flat_all t h.2
    refine ⟨by rw [List.all_cons, h1, h3]; rfl, fun e y r2 h5 => ?_⟩
    show (eqV v y || inV y vs) = _
    rw [h2 e y r2 h5, h4 e y r2 h5]; rfl
theorem in_ok {K : PySem.W.Frag} {w : Wd} {H : Hp} (e : Same w.F H) {a b : PyData} {x y : V} {z : Bool} {C : Prop} {Q : VK} (va : Vw w.F H a x) (vb : Vw w.F H b y) (ez : fIn a b = some (z, C)) (hC : C) :
    (Q (.bl z) H → rInAll K x y H Q) ∧ (Q (.bl !z) H → rNotInAll K x y H Q) := by
  cases b with
  | list ds =>
    cases ez
    exact ⟨fun q => .inl ⟨a, ds, va.dp e, vb.dp e, hC.1, hC.2, q⟩, fun q => .inl ⟨a, ds, va.dp e, vb.dp e, hC.1, hC.2, q⟩⟩
  | tuple ds =>
    cases ez
    obtain ⟨p, vs, rfl, hp, r, _⟩ := vw_tup e vb
    have ra : Rp w.F a x := by cases a <;> first | exact va | (exact absurd hC.1 (by decide)) | (cases hC.1)
    obtain ⟨h1, _⟩ := flat_rep ra hC.1
    obtain ⟨h2, h3⟩ := flat_all r hC.2
    have h4 := h3 a x ra hC.1
    refine ⟨fun q => .inr (.inl ⟨p, vs, rfl, .inr (SqT.of hp), h1, h2, ?_⟩), fun q => .inr (.inl ⟨p, vs, rfl, .inr (SqT.of hp), h1, h2, ?_⟩)⟩
    · show Q (.bl (inV x vs)) H
      rw [h4]; exact q
    · show Q (.bl (!inV x vs)) H
      rw [h4]; exact q
  | str s =>
    cases a with
    | str t =>
      have ez' : (match t.cps.toList with | [c] => some (decide (c ∈ s.cps.toList), True) | _ => none) = some (z, C) := ez
      split at ez'
      · rename_i c heq
        cases ez'
        have e3 := sign_eq heq
        subst e3
        exact ⟨fun q => .inr (.inr ⟨_, _, vw_str va, vw_str vb, q⟩), fun q => .inr (.inr ⟨_, _, vw_str va, vw_str vb, q⟩)⟩
      · cases ez'
    | _ => simp [fIn] at ez
  | _ => cases ez
theorem lr_in {K : PySem.W.Frag} : LR (rInAll K) wIn := fun w M H x y vx vy Qu Q h rx ry hq o => by
  obtain ⟨a, b, z, C, ea, eb, ez, hC, q⟩ := hq
  exact (in_ok h.sub (view_ok h rx ea) (view_ok h ry eb) ez hC).1 (o.here h (RU.D (.bl _)) q)
theorem lr_notIn {K : PySem.W.Frag} : LR (rNotInAll K) wNotIn := fun w M H x y vx vy Qu Q h rx ry hq o => by
  obtain ⟨a, b, z, C, ea, eb, ez, hC, q⟩ := hq
  exact (in_ok h.sub (view_ok h rx ea) (view_ok h ry eb) ez hC).2 (o.here h (RU.D (.bl _)) q)
/-! ### is None, is not None -/
abbrev rIsNon : R2 := fun x y H Q => y = .non ∧ Q (.bl (decide (x = .non))) H
abbrev rNotNon : R2 := fun x y H Q => y = .non ∧ Q (.bl (!decide (x = .non))) H
def isNoneU : U → Option Bool
  | .d .none => some true
  | .d _ => some false
  | .p _ => some false
  | .v _ => none
  | .s _ _ => some false
theorem isNone_ok {w : Wd} {x : U} {v : V} {b : Bool} (r : RU w x v) (e : isNoneU x = some b) : decide (v = .non) = b := by
  cases x with
  | d d =>
    cases d <;> cases e <;> cases (show Rp w.F _ v from r) <;> rfl
  | p n =>
    obtain ⟨a, _, rfl⟩ := r
    cases e; rfl
  | v x => cases e
  | s K ns =>
    obtain ⟨a, rfl, _⟩ := r
    cases e; rfl
def wIsN : R2' := fun x y M Q => ∃ b, y = .d .none ∧ isNoneU x = some b ∧ Q (.d (.bool b)) M
def wNotN : R2' := fun x y M Q => ∃ b, y = .d .none ∧ isNoneU x = some b ∧ Q (.d (.bool !b)) M
theorem lr_isN : LR rIsNon wIsN := fun w M H x y vx vy Qu Q h rx ry hq o => by
  obtain ⟨b, rfl, e, q⟩ := hq
  cases (show Rp w.F .none vy from ry)
  exact ⟨rfl, by rw [isNone_ok rx e]; exact o.here h (RU.D (.bl _)) q⟩
theorem lr_notN : LR rNotNon wNotN := fun w M H x y vx vy Qu Q h rx ry hq o => by
  obtain ⟨b, rfl, e, q⟩ := hq
  cases (show Rp w.F .none vy from ry)
  exact ⟨rfl, by rw [isNone_ok rx e]; exact o.here h (RU.D (.bl _)) q⟩
/-- is, is not of truths -/
abbrev rIsBl : R2 := rIsB
def wIsB : R2' := fun x y M Q => ∃ a b, x = .d (.bool a) ∧ y = .d (.bool b) ∧ Q (.d (.bool (decide (a = b)))) M
def wNotB : R2' := fun x y M Q => ∃ a b, x = .d (.bool a) ∧ y = .d (.bool b) ∧ Q (.d (.bool !decide (a = b))) M
theorem lr_isB : LR rIsB wIsB := fun w M H x y vx vy Qu Q h rx ry hq o => by
  obtain ⟨a, b, rfl, rfl, q⟩ := hq
  cases (show Rp w.F _ vy from ry); cases (show Rp w.F _ vx from rx)
  exact ⟨_, _, rfl, rfl, o.here h (RU.D (.bl _)) q⟩
theorem lr_notB : LR rNotB wNotB := fun w M H x y vx vy Qu Q h rx ry hq o => by
  obtain ⟨a, b, rfl, rfl, q⟩ := hq
  cases (show Rp w.F _ vy from ry); cases (show Rp w.F _ vx from rx)
  exact ⟨_, _, rfl, rfl, o.here h (RU.D (.bl _)) q⟩
/-! ### calls of built-ins -/
/-- the views of the arguments -/
def views (M : List Ob) : List U → Option (List PyData)
  | [] => some []
  | u :: us => match view M u, views M us with
    | some d, some ds => some (d :: ds)
    | _, _ => none
/-- one argument -/
def wC1 (f : List Ob → U → Option (PyData × Prop)) : List U → List Ob → (U → List Ob → Prop) → Prop := fun us M Q => ∃ u z C, us = [u] ∧ f M u = some (z, C) ∧ C ∧ Q (.d z) M
def wC2 (f : List Ob → U → U → Option (PyData × Prop)) : List U → List Ob → (U → List Ob → Prop) → Prop := fun us M Q => ∃ u t z C, us = [u, t] ∧ f M u t = some (z, C) ∧ C ∧ Q (.d z) M
def fLen (M : List Ob) (u : U) : Option (PyData × Prop) := match view M u with
  | some (.list ds) => some (.int ds.length, True)
  | some (.tuple ds) => some (.int ds.length, True)
  | some (.str z) => some (.int z.length, z.length ≤ sizeLine)
  | some _ => none
  | none => match u with
    | .p n => match M[n]? with
      | some (.lsp us) => some (.int us.length, True)
      | some (.tpp us) => some (.int us.length, True)
      | _ => none
    | _ => none
def rLen (K : PySem.W.Frag) : List V → Hp → VK → Prop := fun xs H Q => ∃ x n, xs = [x] ∧ LenV K x H n ∧ Q (.int n) H
theorem call_lenAll {X : Cx} : CallR X (.builtin "len") (rLen X.K) := call_len
theorem cell_at {w : Wd} {M : List Ob} {H : Hp} (h : Hold w M H) {n : Nat} {v : V} {m : Ob} (r : RU w (.p n) v) (hm : M[n]? = some m) (h0 : m ≠ .dead) : ∃ a o, v = .ref a ∧ w.th[n]? = some a ∧ H a = some o ∧ RO w m o := by
  obtain ⟨a, ha, rfl⟩ := r
  obtain ⟨o, ho, e⟩ := h.cell n a m ha hm
  rcases e with e | ⟨_, e⟩
  · exact absurd e h0
  · exact ⟨a, o, rfl, ha, ho, e⟩
theorem lc_len {K : PySem.W.Frag} : LC (rLen K) (wC1 fLen) := fun w M H x vx Qu Q h rx hq o => by
  obtain ⟨u, z, C, rfl, e, hC, q⟩ := hq
  cases rx with
  | cons r t =>
    cases t
    unfold fLen at e
    split at e
    · rename_i ds hv
      cases e
      obtain ⟨p, vs, rfl, hp, r1⟩ := view_ok h r hv
      exact ⟨_, _, rfl, .inl ⟨vs, SqL.of hp, r1.length⟩, o.here h (RU.D (.int _)) q⟩
    · rename_i ds hv
      cases e
      obtain ⟨p, vs, rfl, hp, r1, _⟩ := vw_tup h.sub (view_ok h r hv)
      exact ⟨_, _, rfl, .inr ⟨vs, SqT.of hp, r1.length⟩, o.here h (RU.D (.int _)) q⟩
    · rename_i s hv
      cases e
      have e1 := vw_str (view_ok h r hv)
      subst e1
      exact ⟨_, s.length, rfl, ⟨hC, rfl⟩, o.here h (RU.D (.int _)) q⟩
    · cases e
    · split at e
      · rename_i n
        split at e
        · rename_i us hm
          cases e
          obtain ⟨a, ob, rfl, _, ho, vs, rfl, r1⟩ := cell_at h r hm (fun q => nomatch q)
          exact ⟨_, _, rfl, .inl ⟨vs, SqL.of ho, Paired.length r1⟩, o.here h (RU.D (.int _)) q⟩
        · rename_i us hm
          cases e
          obtain ⟨a, ob, rfl, _, ho, vs, rfl, r1⟩ := cell_at h r hm (fun q => nomatch q)
          exact ⟨_, _, rfl, .inr ⟨vs, SqT.of ho, Paired.length r1⟩, o.here h (RU.D (.int _)) q⟩
        · cases e
      · cases e
end DL

namespace DL
open PySem L2
theorem rus1 {w : Wd} {u : U} {vs : List V} (r : RUs w [u] vs) : ∃ v, vs = [v] ∧ RU w u v := by
  cases r with
  | cons r t => cases t; exact ⟨_, rfl, r⟩
theorem rus2 {w : Wd} {u t : U} {vs : List V} (r : RUs w [u, t] vs) : ∃ v x, vs = [v, x] ∧ RU w u v ∧ RU w t x := by
  cases r with
  | cons r t =>
    obtain ⟨x, rfl, rx⟩ := rus1 t
    exact ⟨_, _, rfl, r, rx⟩
/-- an int argument -/
def fI1 (g : Int → PyData) (C : Int → Prop) (M : List Ob) (u : U) : Option (PyData × Prop) := match view M u with
  | some (.int i) => some (g i, C i)
  | _ => none
def fI2 (g : Int → Int → PyData) (M : List Ob) (u t : U) : Option (PyData × Prop) := match view M u, view M t with
  | some (.int i), some (.int j) => some (g i j, True)
  | _, _ => none
theorem fI1_inv {g : Int → PyData} {C : Int → Prop} {M : List Ob} {u : U} {z : PyData} {D : Prop} (e : fI1 g C M u = some (z, D)) : ∃ i, view M u = some (.int i) ∧ z = g i ∧ D = C i := by
  unfold fI1 at e
  split at e
  · cases e; exact ⟨_, by assumption, rfl, rfl⟩
  · cases e
theorem fI2_inv {g : Int → Int → PyData} {M : List Ob} {u t : U} {z : PyData} {D : Prop} (e : fI2 g M u t = some (z, D)) : ∃ i j, view M u = some (.int i) ∧ view M t = some (.int j) ∧ z = g i j := by
  unfold fI2 at e
  split at e
  · cases e; exact ⟨_, _, by assumption, by assumption, rfl⟩
  · cases e
abbrev rAbs : List V → Hp → VK → Prop := fun xs H Q => ∃ i, xs = [.int i] ∧ Q (.int (if i < 0 then -i else i)) H
abbrev wAbs := wC1 (fI1 (fun i => .int (if i < 0 then -i else i)) fun _ => True)
theorem lc_abs : LC rAbs wAbs := fun w M H x vx Qu Q h rx hq o => by
  obtain ⟨u, z, C, rfl, e, hC, q⟩ := hq
  obtain ⟨v, rfl, r⟩ := rus1 rx
  obtain ⟨i, hv, rfl, rfl⟩ := fI1_inv e
  have e1 := vw_int (view_ok h r hv)
  subst e1
  exact ⟨i, rfl, o.here h (RU.D (.int _)) q⟩
abbrev rMax2 : List V → Hp → VK → Prop := fun xs H Q => ∃ i j, xs = [.int i, .int j] ∧ Q (.int (if j > i then j else i)) H
abbrev rMin2 : List V → Hp → VK → Prop := fun xs H Q => ∃ i j, xs = [.int i, .int j] ∧ Q (.int (if j < i then j else i)) H
abbrev wMax2 := wC2 (fI2 fun i j => .int (if j > i then j else i))
abbrev wMin2 := wC2 (fI2 fun i j => .int (if j < i then j else i))
theorem lc_max2 : LC rMax2 wMax2 := fun w M H x vx Qu Q h rx hq o => by
  obtain ⟨u, t, z, C, rfl, e, hC, q⟩ := hq
  obtain ⟨v, y, rfl, r1, r2⟩ := rus2 rx
  obtain ⟨i, j, h1, h2, rfl⟩ := fI2_inv e
  have e1 := vw_int (view_ok h r1 h1)
  have e2 := vw_int (view_ok h r2 h2)
  subst e1 e2
  exact ⟨i, j, rfl, o.here h (RU.D (.int _)) q⟩
theorem lc_min2 : LC rMin2 wMin2 := fun w M H x vx Qu Q h rx hq o => by
  obtain ⟨u, t, z, C, rfl, e, hC, q⟩ := hq
  obtain ⟨v, y, rfl, r1, r2⟩ := rus2 rx
  obtain ⟨i, j, h1, h2, rfl⟩ := fI2_inv e
  have e1 := vw_int (view_ok h r1 h1)
  have e2 := vw_int (view_ok h r2 h2)
  subst e1 e2
  exact ⟨i, j, rfl, o.here h (RU.D (.int _)) q⟩
/-- int(x) of an int or a truth -/
abbrev rInt1 : List V → Hp → VK → Prop := fun xs H Q => (∃ i, xs = [.int i] ∧ Q (.int i) H) ∨ ∃ k, xs = [.bl k] ∧ Q (.int (if k then 1 else 0)) H
def fInt1 (M : List Ob) (u : U) : Option (PyData × Prop) := match view M u with
  | some (.int i) => some (.int i, True)
  | some (.bool k) => some (.int (if k then 1 else 0), True)
  | _ => none
abbrev wInt1 := wC1 fInt1
theorem lc_int1 : LC rInt1 wInt1 := fun w M H x vx Qu Q h rx hq o => by
  obtain ⟨u, z, C, rfl, e, hC, q⟩ := hq
  obtain ⟨v, rfl, r⟩ := rus1 rx
  unfold fInt1 at e
  split at e
  · rename_i i hv
    cases e
    have e1 := vw_int (view_ok h r hv)
    subst e1
    exact .inl ⟨i, rfl, o.here h (RU.D (.int _)) q⟩
  · rename_i i hv
    cases e
    have e1 := vw_bool (view_ok h r hv)
    subst e1
    exact .inr ⟨i, rfl, o.here h (RU.D (.int _)) q⟩
  · cases e
/-- list(x), tuple(x) of a list or tuple -/
def rListOf (K : PySem.W.Frag) : List V → Hp → VK → Prop := fun xs H Q => ∃ p ys, xs = [.ref p] ∧ (SqL K H p ys ∨ SqT K H p ys) ∧ ∀ l, H l = none → Q (.ref l) (upd H l (.lst ys))
theorem call_listOf {X : Cx} : CallR X (.type "list") (rListOf X.K) := call_list_of
def rTupOf (K : PySem.W.Frag) : List V → Hp → VK → Prop := fun xs H Q => ∃ p ys, xs = [.ref p] ∧ ((SqL K H p ys ∧ ∀ l, H l = none → Q (.ref l) (upd H l (.tup ys))) ∨ (SqT K H p ys ∧ Q (.ref p) H))
theorem call_tupOf {X : Cx} : CallR X (.type "tuple") (rTupOf X.K) := call_tuple_of
def itemsD (M : List Ob) (u : U) : Option (List PyData) := match view M u with
  | some (.list ds) => some ds
  | some (.tuple ds) => some ds
  | _ => none
/-- new data; a new cell -/
def wListOf : List U → List Ob → (U → List Ob → Prop) → Prop := fun us M Q => ∃ u ds, us = [u] ∧ itemsD M u = some ds ∧ Q (.d (.list ds)) M
def wListOfC : List U → List Ob → (U → List Ob → Prop) → Prop := fun us M Q => ∃ u ds, us = [u] ∧ itemsD M u = some ds ∧ Q (.p M.length) (M ++ [.lst ds])
def wTupOf : List U → List Ob → (U → List Ob → Prop) → Prop := fun us M Q => ∃ u ds, us = [u] ∧ itemsD M u = some ds ∧ Q (.d (.tuple ds)) M
theorem items_ok {K : PySem.W.Frag} {w : Wd} {M : List Ob} {H : Hp} {u : U} {v : V} {ds : List PyData} (h : Hold w M H) (r : RU w u v) (e : itemsD M u = some ds) : ∃ p vs, v = .ref p ∧ (SqL K H p vs ∨ SqT K H p vs) ∧ RpL w.F ds vs := by
  unfold itemsD at e
  split at e
  · rename_i hv
    cases e
    obtain ⟨p, vs, rfl, hp, r1⟩ := view_ok h r hv
    exact ⟨p, vs, rfl, .inl (SqL.of hp), r1⟩
  · rename_i hv
    cases e
    obtain ⟨p, vs, rfl, hp, r1, _⟩ := vw_tup h.sub (view_ok h r hv)
    exact ⟨p, vs, rfl, .inr (SqT.of hp), r1⟩
  · cases e
theorem lc_listOf {K : PySem.W.Frag} : LC (rListOf K) wListOf := fun w M H x vx Qu Q h rx hq o => by
  obtain ⟨u, ds, rfl, e, q⟩ := hq
  obtain ⟨v, rfl, r⟩ := rus1 rx
  obtain ⟨p, vs, rfl, hs, r1⟩ := items_ok (K := K) h r e
  exact ⟨p, vs, rfl, hs, fun l hl => o _ _ _ _ _ (Step.put h hl) (h.put hl) (RU.D (.lst Wd.putF (r1.mono (same_put (h.newF hl))))) q⟩
theorem lc_listOfC {K : PySem.W.Frag} : LC (rListOf K) wListOfC := fun w M H x vx Qu Q h rx hq o => by
  obtain ⟨u, ds, rfl, e, q⟩ := hq
  obtain ⟨v, rfl, r⟩ := rus1 rx
  obtain ⟨p, vs, rfl, hs, r1⟩ := items_ok (K := K) h r e
  exact ⟨p, vs, rfl, hs, fun l hl => o _ _ _ _ _ (Step.cell h hl) (h.cell' hl (RO.L r1)) (RU.P (Wd.cell_at h)) q⟩
theorem lc_tupOf {K : PySem.W.Frag} : LC (rTupOf K) wTupOf := fun w M H x vx Qu Q h rx hq o => by
  obtain ⟨u, ds, rfl, e, q⟩ := hq
  obtain ⟨v, rfl, r⟩ := rus1 rx
  unfold itemsD at e
  split at e
  · rename_i hv
    cases e
    obtain ⟨p, vs, rfl, hp, r1⟩ := view_ok h r hv
    exact ⟨p, vs, rfl, .inl ⟨SqL.of hp, fun l hl => o _ _ _ _ _ (Step.put h hl) (h.put hl) (RU.D (.tup Wd.putF (r1.mono (same_put (h.newF hl))))) q⟩⟩
  · rename_i hv
    cases e
    obtain ⟨p, vs, rfl, hp, r1, k⟩ := vw_tup h.sub (view_ok h r hv)
    exact ⟨p, vs, rfl, .inr ⟨SqT.of hp, o.here h (RU.D k) q⟩⟩
  · cases e
/-- all, any of a list of truths -/
def bools : List PyData → Option (List Bool)
  | [] => some []
  | .bool b :: ds => match bools ds with
    | some bs => some (b :: bs)
    | none => none
  | _ :: _ => none
theorem bools_ok {F : Hp} : ∀ {ds : List PyData} {vs : List V} {bs : List Bool}, RpL F ds vs → bools ds = some bs → vs = bs.map V.bl
  | _, _, _, .nil, e => by cases e; rfl
  | .bool b :: ds, _, bs, .cons r t, e => by
    have e' : (match bools ds with | some bs => some (b :: bs) | none => none) = some bs := e
    cases q : bools ds with
    | none => rw [q] at e'; cases e'
    | some cs =>
      rw [q] at e'; cases e'
      cases r
      rw [bools_ok t q]; rfl
  | .none :: _, _, _, .cons _ _, e => by cases e
  | .int _ :: _, _, _, .cons _ _, e => by cases e
  | .str _ :: _, _, _, .cons _ _, e => by cases e
  | .list _ :: _, _, _, .cons _ _, e => by cases e
  | .tuple _ :: _, _, _, .cons _ _, e => by cases e
  | .dict _ :: _, _, _, .cons _ _, e => by cases e
theorem bools_map : ∀ bs : List Bool, bools (bs.map PyData.bool) = some bs
  | [] => rfl
  | b :: bs => by
    show (match bools (bs.map PyData.bool) with | some bs => some (b :: bs) | none => none) = _
    rw [bools_map bs]
def wBools (g : List Bool → Bool) : List U → List Ob → (U → List Ob → Prop) → Prop := fun us M Q => ∃ u ds bs, us = [u] ∧ view M u = some (.list ds) ∧ bools ds = some bs ∧ Q (.d (.bool (g bs))) M
theorem lc_all {K : PySem.W.Frag} : LC (rAll K) (wBools fun bs => bs.all id) := fun w M H x vx Qu Q h rx hq o => by
  obtain ⟨u, ds, bs, rfl, e, e2, q⟩ := hq
  obtain ⟨v, rfl, r⟩ := rus1 rx
  obtain ⟨p, vs, rfl, hp, r1⟩ := view_ok h r e
  have e3 := bools_ok r1 e2
  subst e3
  exact ⟨p, bs, rfl, SqL.of hp, o.here h (RU.D (.bl _)) q⟩
theorem lc_any {K : PySem.W.Frag} : LC (rAny K) (wBools fun bs => bs.any id) := fun w M H x vx Qu Q h rx hq o => by
  obtain ⟨u, ds, bs, rfl, e, e2, q⟩ := hq
  obtain ⟨v, rfl, r⟩ := rus1 rx
  obtain ⟨p, vs, rfl, hp, r1⟩ := view_ok h r e
  have e3 := bools_ok r1 e2
  subst e3
  exact ⟨p, bs, rfl, SqL.of hp, o.here h (RU.D (.bl _)) q⟩
/-- isinstance against a built-in class -/
def kindD : PyData → Option String
  | .none => some "NoneType"
  | .bool _ => some "bool"
  | .int _ => some "int"
  | .str _ => some "str"
  | .list _ => some "list"
  | .tuple _ => some "tuple"
  | .dict _ => none
theorem kind_ok {K : PySem.W.Frag} {F H : Hp} (e : Same F H) {d : PyData} {v : V} (r : Vw F H d v) {n : String} (k : kindD d = some n) : TyX K H v (.type n) := by
  cases d with
  | none => cases k; cases (show Rp F _ v from r); exact .base .non
  | bool b => cases k; cases (show Rp F _ v from r); exact .base (.bl b)
  | int b => cases k; cases (show Rp F _ v from r); exact .base (.int b)
  | str b => cases k; cases (show Rp F _ v from r); exact .base (.str b)
  | list ds => cases k; obtain ⟨p, vs, rfl, hp, _⟩ := r; exact .base (.lst hp)
  | tuple ds =>
    cases k
    cases (show Rp F _ v from r) with
    | tup h1 _ => exact .base (.tup (e _ _ h1))
  | dict ds => cases k
/-- h: kitOne of that type, that class -/
def wIsi (K : PySem.W.Frag) : List U → List Ob → (U → List Ob → Prop) → Prop := fun us M Q => ∃ u c d n b, us = [u, .v (.ty c)] ∧ view M u = some d ∧ kindD d = some n ∧ PySem.W.kitOne K (.type n) (.type c) = some b ∧ Q (.d (.bool b)) M
theorem lc_isi {K : PySem.W.Frag} : LC (rIsi K) (wIsi K) := fun w M H x vx Qu Q h rx hq o => by
  obtain ⟨u, c, d, n, b, rfl, hv, hk, hb, q⟩ := hq
  obtain ⟨v, y, rfl, r1, r2⟩ := rus2 rx
  have e : y = .ty c := r2
  subst e
  exact ⟨v, .ty c, .type n, .type c, b, rfl, .ty c, kind_ok h.sub (view_ok h r1 hv) hk, hb, o.here h (RU.D (.bl _)) q⟩
/-! ### methods -/
def wBM (ty : U → List Ob → Prop) (wm : U → List U → List Ob → (U → List Ob → Prop) → Prop) (we : WE) (wr : WA) : WE := fun ρ M Q => we ρ M fun x M1 => ty x M1 ∧ wr ρ M1 fun us M2 => wm x us M2 Q
def TyOk (K : PySem.W.Frag) (T : String) (ty : U → List Ob → Prop) : Prop := ∀ ⦃w : Wd⦄ ⦃M : List Ob⦄ ⦃H : Hp⦄ ⦃x : U⦄ ⦃v : V⦄, Hold w M H → RU w x v → ty x M → tyV K T v H
theorem le_bm {K : PySem.W.Frag} {T : String} {ty : U → List Ob → Prop} {r : V → List V → Hp → VK → Prop} {wm : U → List U → List Ob → (U → List Ob → Prop) → Prop} {te : TE} {we : WE} {tr : TA} {wr : WA} (ht : TyOk K T ty) (hm : LM r wm) (he : LE te we) (hr : LA tr wr) :
    LE (tBM K T r te tr) (wBM ty wm we wr) := fun _ _ _ _ _ _ _ h e hq o =>
  he h e hq fun _ _ _ _ _ s1 h1 r1 q1 => ⟨ht h1 r1 q1.1, hr h1 (e.grow s1.grow) q1.2 fun _ _ _ _ _ s2 h2 r2 q2 => hm h2 (r1.grow s2.grow) r2 q2 ((o.trans s1 h1).trans s2 h2)⟩
theorem le_bm0 {K : PySem.W.Frag} {T : String} {ty : U → List Ob → Prop} {r : V → List V → Hp → VK → Prop} {wm : U → List U → List Ob → (U → List Ob → Prop) → Prop} {te : TE} {we : WE} (ht : TyOk K T ty) (hm : LM r wm) (he : LE te we) :
    LE (tBM0 K T r te) (wBM ty wm we wNil) := fun _ _ _ _ _ _ _ h e hq o =>
  he h e hq fun _ _ _ _ _ s1 h1 r1 q1 => ⟨ht h1 r1 q1.1, hm h1 r1 .nil q1.2 (o.trans s1 h1)⟩
def isList (x : U) (M : List Ob) : Prop := (∃ ds, view M x = some (.list ds)) ∨ ∃ n us, x = .p n ∧ M[n]? = some (.lsp us)
theorem ty_list {K : PySem.W.Frag} : TyOk K "list" isList := fun w M H x v h r t => by
  rcases t with ⟨ds, t⟩ | ⟨n, us, rfl, hm⟩
  · obtain ⟨p, vs, rfl, hp, _⟩ := view_ok h r t
    exact .inl ⟨rfl, vs, SqL.of hp⟩
  · obtain ⟨a, ob, rfl, _, ho, vs, rfl, r1⟩ := cell_at h r hm (fun q => nomatch q)
    exact .inl ⟨rfl, vs, SqL.of ho⟩
def isStr (x : U) (M : List Ob) : Prop := ∃ z, x = .d (.str z)
theorem ty_str {K : PySem.W.Frag} : TyOk K "str" isStr := fun w M H x v h r t => by
  obtain ⟨z, rfl⟩ := t
  cases (show Rp w.F _ v from r)
  exact rfl
/-- a list's cell is changed; what is handed back -/
theorem set_out {w : Wd} {M : List Ob} {H : Hp} {n : Nat} {a : Addr} {m m0 : Ob} {o : HO} {u : U} {v : V} {Qu : U → List Ob → Prop} {Q : VK} (h : Hold w M H) (ha : w.th[n]? = some a) (hm : M[n]? = some m0) (h0 : m0 ≠ .dead) (r : RO w m o) (ru : RU w u v)
    (q : Qu u (M.set n m)) (k : Out RU w H Qu Q) : Q v (upd H a o) := k _ _ _ _ _ (Step.set ha) (h.set ha hm h0 r) ru q
abbrev WM := U → List U → List Ob → (U → List Ob → Prop) → Prop
def wAppend : WM := fun x ys M Q => ∃ n ds d, x = .p n ∧ ys = [.d d] ∧ M[n]? = some (.lst ds) ∧ ds.length < sizeLine ∧ Q (.d .none) (M.set n (.lst (ds ++ [d])))
theorem lm_append : LM rAppend wAppend := fun w M H x vx ys vs Qu Q h rx rs hq o => by
  obtain ⟨n, ds, d, rfl, rfl, hm, hl, q⟩ := hq
  obtain ⟨v, rfl, r⟩ := rus1 rs
  obtain ⟨a, ob, rfl, ha, ho, ws, rfl, r1⟩ := cell_at h rx hm (fun q => nomatch q)
  exact ⟨a, ws, v, rfl, rfl, ho, by rw [← r1.length]; exact hl, set_out h ha hm (fun q => nomatch q) (RO.L (r1.append (.cons r .nil))) (RU.D .non) q o⟩
def wAppendP : WM := fun x ys M Q => ∃ n us u, x = .p n ∧ ys = [u] ∧ M[n]? = some (.lsp us) ∧ us.length < sizeLine ∧ Q (.d .none) (M.set n (.lsp (us ++ [u])))
theorem paired_snoc {w : Wd} {us : List U} {vs : List V} {u : U} {v : V} (r : RUs w us vs) (k : RU w u v) : RUs w (us ++ [u]) (vs ++ [v]) := Paired.snoc r k
theorem lm_appendP : LM rAppend wAppendP := fun w M H x vx ys vs Qu Q h rx rs hq o => by
  obtain ⟨n, us, u, rfl, rfl, hm, hl, q⟩ := hq
  obtain ⟨v, rfl, r⟩ := rus1 rs
  obtain ⟨a, ob, rfl, ha, ho, ws, rfl, r1⟩ := cell_at h rx hm (fun q => nomatch q)
  exact ⟨a, ws, v, rfl, rfl, ho, by rw [← Paired.length r1]; exact hl, set_out h ha hm (fun q => nomatch q) (RO.LP (paired_snoc r1 r)) (RU.D .non) q o⟩
/-- pop(i) -/
def wPopAt : WM := fun x ys M Q => ∃ n ds i k d, x = .p n ∧ ys = [.d (.int i)] ∧ M[n]? = some (.lst ds) ∧ (-(2 ^ 63) ≤ i ∧ i < 2 ^ 63) ∧ seqIndex? i ds.length = some k ∧ ds[k]? = some d ∧ Q (.d d) (M.set n (.lst (ds.eraseIdx k)))
theorem lm_popAt : LM rPopAt wPopAt := fun w M H x vx ys vs Qu Q h rx rs hq o => by
  obtain ⟨n, ds, i, k, d, rfl, rfl, hm, hi, hk, hd, q⟩ := hq
  obtain ⟨v, rfl, r⟩ := rus1 rs
  cases (show Rp w.F _ v from r)
  obtain ⟨a, ob, rfl, ha, ho, ws, rfl, r1⟩ := cell_at h rx hm (fun q => nomatch q)
  obtain ⟨y, hy, ry⟩ := r1.get hd
  exact ⟨a, ws, i, k, y, rfl, rfl, ho, hi.1, hi.2, by rw [← r1.length]; exact hk, hy, set_out h ha hm (fun q => nomatch q) (RO.L (r1.erase k)) (RU.D ry) q o⟩
/-- pop() -/
def wPop : WM := fun x ys M Q => ∃ n ds d, x = .p n ∧ ys = [] ∧ M[n]? = some (.lst ds) ∧ ds[ds.length - 1]? = some d ∧ Q (.d d) (M.set n (.lst ds.dropLast))
theorem RpL.dropLast {F : Hp} : ∀ {ds : List PyData} {vs : List V}, RpL F ds vs → RpL F ds.dropLast vs.dropLast
  | _, _, .nil => .nil
  | _, _, .cons _ .nil => .nil
  | _, _, .cons h (.cons h2 r) => .cons h (RpL.dropLast (.cons h2 r))
theorem lm_pop : LM rPop wPop := fun w M H x vx ys vs Qu Q h rx rs hq o => by
  obtain ⟨n, ds, d, rfl, rfl, hm, hd, q⟩ := hq
  cases rs
  obtain ⟨a, ob, rfl, ha, ho, ws, rfl, r1⟩ := cell_at h rx hm (fun q => nomatch q)
  obtain ⟨y, hy, ry⟩ := r1.get hd
  exact ⟨a, ws, y, rfl, rfl, ho, by rw [← r1.length]; exact hy, set_out h ha hm (fun q => nomatch q) (RO.L r1.dropLast) (RU.D ry) q o⟩
/-- remove(k) of ints, k in it -/
def wRemI : WM := fun x ys M Q => ∃ (n : Nat) (ns : List Int) (k : Int), x = .p n ∧ ys = [.d (.int k)] ∧ M[n]? = some (.lst (ns.map PyData.int)) ∧ k ∈ ns ∧ Q (.d .none) (M.set n (.lst ((ns.erase k).map PyData.int)))
theorem ints_inv {F : Hp} : ∀ {ns : List Int} {vs : List V}, RpL F (ns.map PyData.int) vs → vs = ns.map V.int
  | [], _, h => by cases h; rfl
  | n :: ns, _, h => by
    cases h with
    | cons r t => cases r; rw [ints_inv t]; rfl
theorem first_at : ∀ {ns : List Int} {k : Int}, k ∈ ns → ∃ j : Nat, ns[j]? = some k ∧ (∀ m : Nat, m < j → ns[m]? ≠ some k) ∧ ns.eraseIdx j = ns.erase k
  | n :: ns, k, h => by
    by_cases e : n = k
    · subst e; exact ⟨0, rfl, fun m hm => absurd hm (by omega), by simp⟩
    · have h' : k ∈ ns := by
        rcases List.mem_cons.mp h with q | q
        · exact absurd q.symm e
        · exact q
      obtain ⟨j, h1, h2, h3⟩ := first_at h'
      refine ⟨j + 1, by simpa using h1, fun m hm => ?_, ?_⟩
      · cases m with
        | zero => simpa using e
        | succ m => simpa using h2 m (by omega)
      · rw [List.eraseIdx_cons_succ, h3, List.erase_cons_tail (by simpa using e)]
theorem lm_remI : LM rRemI wRemI := fun w M H x vx ys vs Qu Q h rx rs hq o => by
  obtain ⟨n, ns, k, rfl, rfl, hm, hk, q⟩ := hq
  obtain ⟨v, rfl, r⟩ := rus1 rs
  cases (show Rp w.F _ v from r)
  obtain ⟨a, ob, rfl, ha, ho, ws, rfl, r1⟩ := cell_at h rx hm (fun q => nomatch q)
  have e := ints_inv r1
  subst e
  obtain ⟨j, h1, h2, h3⟩ := first_at hk
  exact ⟨a, ns, k, j, rfl, rfl, ho, h1, h2, by rw [h3]; exact set_out h ha hm (fun q => nomatch q) (RO.L (RpL.ints _)) (RU.D .non) q o⟩
/-- count(k) of ints -/
def wCntI : WM := fun x ys M Q => ∃ (ns : List Int) (k : Int), view M x = some (.list (ns.map PyData.int)) ∧ ys = [.d (.int k)] ∧ Q (.d (.int (ns.count k : Nat))) M
theorem lm_cntI {K : PySem.W.Frag} : LM (rCntI K) wCntI := fun w M H x vx ys vs Qu Q h rx rs hq o => by
  obtain ⟨ns, k, hv, rfl, q⟩ := hq
  obtain ⟨v, rfl, r⟩ := rus1 rs
  cases (show Rp w.F _ v from r)
  obtain ⟨p, ws, rfl, hp, r1⟩ := view_ok h rx hv
  have e := ints_inv r1
  subst e
  exact ⟨p, ns, k, rfl, rfl, SqL.of hp, o.here h (RU.D (.int _)) q⟩
/-- extend by a list -/
def wExtend : WM := fun x ys M Q => ∃ n ds u es, x = .p n ∧ ys = [u] ∧ M[n]? = some (.lst ds) ∧ view M u = some (.list es) ∧ ds.length + es.length ≤ sizeLine ∧ Q (.d .none) (M.set n (.lst (ds ++ es)))
theorem lm_extend : LM rExtend wExtend := fun w M H x vx ys vs Qu Q h rx rs hq o => by
  obtain ⟨n, ds, u, es, rfl, rfl, hm, hv, hl, q⟩ := hq
  obtain ⟨v, rfl, r⟩ := rus1 rs
  obtain ⟨a, ob, rfl, ha, ho, ws, rfl, r1⟩ := cell_at h rx hm (fun q => nomatch q)
  obtain ⟨p, zs, rfl, hp, r2⟩ := view_ok h r hv
  exact ⟨a, p, ws, zs, rfl, rfl, ho, hp, by rw [← r1.length, ← r2.length]; exact hl, set_out h ha hm (fun q => nomatch q) (RO.L (r1.append r2)) (RU.D .non) q o⟩
end DL

namespace DL
open PySem L2
theorem Grow.trans {w w1 w2 : Wd} (a : Grow w w1) (b : Grow w1 w2) : Grow w w2 := ⟨a.F.trans b.F, fun n x h => b.th n x (a.th n x h)⟩
/-- what an iterator yields: the items, while G of the cells holds -/
structure JOk (w : Wd) (J : It) (us : List U) (G : List Ob → Prop) : Prop where
  stop : ∀ {w' : Wd} {M : List Ob} {H : Hp} (i : Nat), Grow w w' → Hold w' M H → G M → us.length ≤ i → J.stop i H
  go : ∀ {w' : Wd} {M : List Ob} {H : Hp} (i : Nat), Grow w w' → Hold w' M H → G M → i < us.length → J.go i H
  yld : ∀ {w' : Wd} {M : List Ob} {H H' : Hp} {v : V} {u : U} (i : Nat), Grow w w' → Hold w' M H → G M → us[i]? = some u → J.yld i H v H' → ∃ w'', Step w' H w'' H' ∧ Hold w'' M H' ∧ RU w'' u v
abbrev WI := Rho → List Ob → (List U → (List Ob → Prop) → List Ob → Prop) → Prop
def LI (wi : TI) (ww : WI) : Prop := ∀ ⦃w : Wd⦄ ⦃M : List Ob⦄ ⦃H : Hp⦄ ⦃σ : L2.St⦄ ⦃ρ : Rho⦄ ⦃Rq : List U → (List Ob → Prop) → List Ob → Prop⦄ ⦃R : It → Hp → Prop⦄, Hold w M H → Env w σ ρ → ww ρ M Rq →
  (∀ (us : List U) (G : List Ob → Prop) (M1 : List Ob) (J : It) (w1 : Wd) (H1 : Hp), Step w H w1 H1 → Hold w1 M1 H1 → JOk w1 J us G → Rq us G M1 → R J H1) → wi σ H R
/-- a loop's turns -/
def wLoop (G : List Ob → Prop) (wg : WG) (wb : WS) (De : DEnds) : List U → Rho → List Ob → Prop
  | [], ρ, M => G M ∧ De.nx ρ M
  | u :: us, ρ, M => G M ∧ wg u ρ M fun ρ1 M1 => wb { De with nx := wLoop G wg wb De us, ct := wLoop G wg wb De us, bk := De.nx } ρ1 M1
def wFor (ww : WI) (wg : WG) (wb : WS) : WS := fun De ρ M => ww ρ M fun us G M1 => wLoop G wg wb De us ρ M1
theorem wLoop_G {G : List Ob → Prop} {wg : WG} {wb : WS} {De : DEnds} : ∀ {us : List U} {ρ : Rho} {M : List Ob}, wLoop G wg wb De us ρ M → G M
  | [], _, _, h => h.1
  | _ :: _, _, _, h => h.1
theorem ls_for {wi : TI} {g : TG} {tb : TS} {ww : WI} {wg : WG} {wb : WS} (hi : LI wi ww) (hg : LG g wg) (hb : LS tb wb) : LS (tFor wi g tb) (wFor ww wg wb) := fun w M H σ ρ De E h e hq o => by
  refine hi h e hq fun us G M1 J w1 H1 s1 h1 j q => ?_
  refine ⟨fun i m σ' H' => m = us.length - i ∧ ∃ w' M' ρ', Step w H w' H' ∧ Grow w1 w' ∧ Hold w' M' H' ∧ Env w' σ' ρ' ∧ wLoop G wg wb De (us.drop i) ρ' M', ⟨us.length, by simp, w1, M1, ρ, s1, Grow.refl _, h1, e.grow s1.grow, q⟩, ?_⟩
  rintro i m σ' H' ⟨hm, w', M', ρ', s', g', h', e', q'⟩
  by_cases hi' : i < us.length
  · right
    have hG := wLoop_G q'
    rw [List.drop_eq_getElem_cons hi'] at q'
    refine ⟨j.go i g' h' hG hi', fun σ2 H2 => ∃ w2 M2 ρ2, Step w H w2 H2 ∧ Grow w1 w2 ∧ Hold w2 M2 H2 ∧ Env w2 σ2 ρ2 ∧ wLoop G wg wb De (us.drop (i + 1)) ρ2 M2, ?_, fun v H2 y => ?_⟩
    · rintro σ2 H2 ⟨w2, M2, ρ2, z⟩
      exact ⟨us.length - (i + 1), by omega, rfl, w2, M2, ρ2, z⟩
    · obtain ⟨w2, s2, h2, r2⟩ := j.yld i g' h' hG (List.getElem?_eq_getElem hi') y
      have s3 := s'.trans h' s2
      have g3 := g'.trans s2.grow
      refine hg h2 (e'.grow s2.grow) r2 q'.2 fun ρ3 M3 σ3 w3 H3 s4 h3 e3 q3 => ?_
      have s5 := s3.trans h2 s4
      have g5 := g3.trans s4.grow
      refine hb h3 e3 q3 ⟨?_, o.rt.trans s5 h3, o.nx.trans s5 h3, ?_⟩
      · intro ρ4 M4 σ4 w4 H4 s6 h4 e4 q4
        exact ⟨w4, M4, ρ4, s5.trans h3 s6, g5.trans s6.grow, h4, e4, q4⟩
      · intro ρ4 M4 σ4 w4 H4 s6 h4 e4 q4
        exact ⟨w4, M4, ρ4, s5.trans h3 s6, g5.trans s6.grow, h4, e4, q4⟩
  · left
    rw [List.drop_of_length_le (by omega)] at q'
    exact ⟨j.stop i g' h' q'.1 (by omega), o.nx _ _ _ _ _ s' h' e' q'.2⟩
/-- proving a loop: an invariant over what is done and what is left -/
theorem wLoop_inv {G : List Ob → Prop} {wg : WG} {wb : WS} {De : DEnds} (I : List U → List U → Rho → List Ob → Prop)
    (hG : ∀ d r ρ M, I d r ρ M → G M)
    (turn : ∀ d u r ρ M, I d (u :: r) ρ M → wg u ρ M fun ρ1 M1 => wb { De with nx := fun ρ2 M2 => I (d ++ [u]) r ρ2 M2, ct := fun ρ2 M2 => I (d ++ [u]) r ρ2 M2, bk := De.nx } ρ1 M1)
    (fin : ∀ d ρ M, I d [] ρ M → De.nx ρ M)
    (mg : ∀ {u ρ M} {Q Q' : Rho → List Ob → Prop}, (∀ ρ' M', Q ρ' M' → Q' ρ' M') → wg u ρ M Q → wg u ρ M Q')
    (mb : ∀ {ρ M} {D D' : DEnds}, (∀ ρ' M', D.nx ρ' M' → D'.nx ρ' M') → (∀ x M', D.rt x M' → D'.rt x M') → (∀ ρ' M', D.bk ρ' M' → D'.bk ρ' M') → (∀ ρ' M', D.ct ρ' M' → D'.ct ρ' M') → wb D ρ M → wb D' ρ M) :
    ∀ (us d : List U) (ρ : Rho) (M : List Ob), I d us ρ M → wLoop G wg wb De us ρ M := by
  intro us
  induction us with
  | nil => intro d ρ M h; exact ⟨hG _ _ _ _ h, fin _ _ _ h⟩
  | cons u us ih =>
    intro d ρ M h
    refine ⟨hG _ _ _ _ h, mg ?_ (turn d u us ρ M h)⟩
    intro ρ1 M1 q
    refine mb ?_ ?_ ?_ ?_ q
    · intro ρ2 M2 z; exact ih _ _ _ z
    · intro _ _ z; exact z
    · intro _ _ z; exact z
    · intro ρ2 M2 z; exact ih _ _ _ z
/-- a loop by what holds ahead of the items that are left -/
theorem wLoop_rec {G : List Ob → Prop} {wg : WG} {wb : WS} {De : DEnds} (I : List U → Rho → List Ob → Prop) (h0 : ∀ ρ M, I [] ρ M → G M ∧ De.nx ρ M)
    (h1 : ∀ u us, (∀ ρ M, I us ρ M → wLoop G wg wb De us ρ M) → ∀ ρ M, I (u :: us) ρ M → G M ∧ wg u ρ M fun ρ1 M1 => wb { De with nx := wLoop G wg wb De us, ct := wLoop G wg wb De us, bk := De.nx } ρ1 M1) :
    ∀ us ρ M, I us ρ M → wLoop G wg wb De us ρ M := by
  intro us
  induction us with
  | nil => intro ρ M h; exact h0 ρ M h
  | cons u us ih => intro ρ M h; exact h1 u us ih ρ M h
/-! ### what is walked -/
/-- a list or tuple of data that stays -/
theorem sqL_eq {K : PySem.W.Frag} {H : Hp} {a : Addr} {xs ys : List V} (h : H a = some (.lst xs)) (h2 : SqL K H a ys) (k : K.lookup a = none ∨ True) : True := trivial
def wIList (we : WE) : WI := fun ρ M Q => we ρ M fun x M1 => ∃ ds, x = .d (.list ds) ∧ Q (ds.map U.d) (fun _ => True) M1
def wIListC (we : WE) : WI := fun ρ M Q => we ρ M fun x M1 => ∃ n ds, x = .p n ∧ M1[n]? = some (.lst ds) ∧ Q (ds.map U.d) (fun M' => M'[n]? = some (.lst ds)) M1
def wITup (we : WE) : WI := fun ρ M Q => we ρ M fun x M1 => ∃ ds, x = .d (.tuple ds) ∧ Q (ds.map U.d) (fun _ => True) M1
theorem getMap {ds : List PyData} {i : Nat} {u : U} (h : (ds.map U.d)[i]? = some u) : ∃ d, ds[i]? = some d ∧ u = .d d := by
  rw [List.getElem?_map] at h
  cases e : ds[i]? with
  | none => rw [e] at h; cases h
  | some d => rw [e] at h; exact ⟨d, rfl, (Option.some.inj h).symm⟩
theorem j_list {K : PySem.W.Frag} {w : Wd} {a : Addr} {vs : List V} {ds : List PyData} (ha : w.F a = some (.lst vs)) (r : RpL w.F ds vs) : JOk w (Itl K a) (ds.map U.d) fun _ => True where
  stop := fun {w' M H} i g h _ hi => ⟨vs, SqL.of (h.sub _ _ (g.F _ _ ha)), by rw [← r.length]; simpa using hi⟩
  go := fun {w' M H} i g h _ hi => by
    have hi' : i < vs.length := by rw [← r.length]; simpa using hi
    exact ⟨vs, vs[i], SqL.of (h.sub _ _ (g.F _ _ ha)), List.getElem?_eq_getElem hi'⟩
  yld := fun {w' M H H' v u} i g h _ hu y => by
    obtain ⟨rfl, y⟩ := y
    obtain ⟨d, hd, rfl⟩ := getMap hu
    obtain ⟨v', h1, h2⟩ := r.get hd
    have h3 := y vs (SqL.of (h.sub _ _ (g.F _ _ ha)))
    rw [h1] at h3; cases h3
    exact ⟨w', Step.refl _ _, h, RU.D (h2.mono g.F)⟩
theorem j_tup {K : PySem.W.Frag} {w : Wd} {a : Addr} {vs : List V} {ds : List PyData} (ha : w.F a = some (.tup vs)) (r : RpL w.F ds vs) : JOk w (Itt K a) (ds.map U.d) fun _ => True where
  stop := fun {w' M H} i g h _ hi => ⟨vs, SqT.of (h.sub _ _ (g.F _ _ ha)), by rw [← r.length]; simpa using hi⟩
  go := fun {w' M H} i g h _ hi => by
    have hi' : i < vs.length := by rw [← r.length]; simpa using hi
    exact ⟨vs, vs[i], SqT.of (h.sub _ _ (g.F _ _ ha)), List.getElem?_eq_getElem hi'⟩
  yld := fun {w' M H H' v u} i g h _ hu y => by
    obtain ⟨rfl, y⟩ := y
    obtain ⟨d, hd, rfl⟩ := getMap hu
    obtain ⟨v', h1, h2⟩ := r.get hd
    have h3 := y vs (SqT.of (h.sub _ _ (g.F _ _ ha)))
    rw [h1] at h3; cases h3
    exact ⟨w', Step.refl _ _, h, RU.D (h2.mono g.F)⟩
theorem j_listC {K : PySem.W.Frag} {w : Wd} {n : Nat} {a : Addr} {ds : List PyData} (ha : w.th[n]? = some a) : JOk w (Itl K a) (ds.map U.d) fun M' => M'[n]? = some (.lst ds) where
  stop := fun {w' M H} i g h hm hi => by
    obtain ⟨b, ob, e, _, ho, vs, rfl, r⟩ := cell_at h (RU.P (g.th _ _ ha)) hm (fun q => nomatch q)
    cases e
    exact ⟨vs, SqL.of ho, by rw [← r.length]; simpa using hi⟩
  go := fun {w' M H} i g h hm hi => by
    obtain ⟨b, ob, e, _, ho, vs, rfl, r⟩ := cell_at h (RU.P (g.th _ _ ha)) hm (fun q => nomatch q)
    cases e
    have hi' : i < vs.length := by rw [← r.length]; simpa using hi
    exact ⟨vs, vs[i], SqL.of ho, List.getElem?_eq_getElem hi'⟩
  yld := fun {w' M H H' v u} i g h hm hu y => by
    obtain ⟨b, ob, e, _, ho, vs, rfl, r⟩ := cell_at h (RU.P (g.th _ _ ha)) hm (fun q => nomatch q)
    cases e
    obtain ⟨rfl, y⟩ := y
    obtain ⟨d, hd, rfl⟩ := getMap hu
    obtain ⟨v', h1, h2⟩ := r.get hd
    have h3 := y vs (SqL.of ho)
    rw [h1] at h3; cases h3
    exact ⟨w', Step.refl _ _, h, RU.D h2⟩
theorem li_list {K : PySem.W.Frag} {te : TE} {we : WE} (he : LE te we) : LI (iList K te) (wIList we) := fun _ _ _ _ _ _ _ h e hq k =>
  he h e hq fun _ _ _ _ _ s1 h1 r1 q1 => by
    obtain ⟨ds, rfl, q⟩ := q1
    cases (show Rp _ _ _ from r1) with
    | lst ha r => exact ⟨_, rfl, ⟨_, SqL.of (h1.sub _ _ ha)⟩, k _ _ _ _ _ _ s1 h1 (j_list ha r) q⟩
theorem li_tup {K : PySem.W.Frag} {te : TE} {we : WE} (he : LE te we) : LI (iTup K te) (wITup we) := fun _ _ _ _ _ _ _ h e hq k =>
  he h e hq fun _ _ _ _ _ s1 h1 r1 q1 => by
    obtain ⟨ds, rfl, q⟩ := q1
    cases (show Rp _ _ _ from r1) with
    | tup ha r => exact ⟨_, rfl, ⟨_, SqT.of (h1.sub _ _ ha)⟩, k _ _ _ _ _ _ s1 h1 (j_tup ha r) q⟩
theorem li_listC {K : PySem.W.Frag} {te : TE} {we : WE} (he : LE te we) : LI (iList K te) (wIListC we) := fun _ _ _ _ _ _ _ h e hq k =>
  he h e hq fun _ _ _ _ _ s1 h1 r1 q1 => by
    obtain ⟨n, ds, rfl, hm, q⟩ := q1
    obtain ⟨a, ob, rfl, ha, ho, vs, rfl, r⟩ := cell_at h1 r1 hm (fun q => nomatch q)
    exact ⟨_, rfl, ⟨_, SqL.of ho⟩, k _ _ _ _ _ _ s1 h1 (j_listC ha) q⟩
/-- range(n) -/
def intsU (lo : Int) (n : Nat) : List U := (List.range n).map fun i => U.d (.int (lo + (i : Nat)))
theorem j_rng {w : Wd} {lo : Int} {n : Nat} : JOk w (Itr lo n) (intsU lo n) fun _ => True where
  stop := fun i _ _ _ hi => by
    show n ≤ i
    simpa [intsU] using hi
  go := fun i _ _ _ hi => by
    show i < n
    simpa [intsU] using hi
  yld := fun {w' M H H' v u} i g h _ hu y => by
    obtain ⟨rfl, rfl⟩ := y
    have hl : i < n := by simpa [intsU] using (List.getElem?_eq_some_iff.mp hu).1
    have e : u = .d (.int (lo + (i : Nat))) := by
      unfold intsU at hu
      rw [List.getElem?_map, List.getElem?_range hl] at hu
      exact (Option.some.inj hu).symm
    subst e
    exact ⟨w', Step.refl _ _, h, RU.D (.int _)⟩
def wIRng1 (wr : WA) : WI := fun ρ M Q => wr ρ M fun us M1 => ∃ u j, us = [u] ∧ view M1 u = some (.int j) ∧ (-(2 ^ 62) ≤ j ∧ j < 2 ^ 62) ∧ Q (intsU 0 j.toNat) (fun _ => True) M1
theorem li_rng1 {tr : TA} {wr : WA} (hr : LA tr wr) : LI (iRng1 tr) (wIRng1 wr) := fun _ _ _ _ _ _ _ h e hq k =>
  hr h e hq fun _ _ _ _ _ s1 h1 r1 q1 => by
    obtain ⟨u, j, rfl, hv, hj, q⟩ := q1
    obtain ⟨v, rfl, r⟩ := rus1 r1
    exact ⟨j, by rw [vw_int (view_ok h1 r hv)], hj.1, hj.2, k _ _ _ _ _ _ s1 h1 j_rng q⟩
/-- zip of two lists or two tuples of data -/
def pairs (ds es : List PyData) : List U := (ds.zip es).map fun p => U.d (.tuple [p.1, p.2])
theorem zip_get {ds es : List PyData} {i : Nat} {u : U} (h : (pairs ds es)[i]? = some u) : ∃ d e, ds[i]? = some d ∧ es[i]? = some e ∧ u = .d (.tuple [d, e]) := by
  unfold pairs at h
  rw [List.getElem?_map] at h
  cases q : (ds.zip es)[i]? with
  | none => rw [q] at h; cases h
  | some p =>
    rw [q] at h
    obtain ⟨h1, h2⟩ := List.getElem?_zip_eq_some.mp q
    exact ⟨p.1, p.2, h1, h2, (Option.some.inj h).symm⟩
theorem j_zip {K : PySem.W.Frag} {w : Wd} {a b : Addr} {vs ws : List V} {ds es : List PyData} (ha : w.F a = some (.lst vs)) (r : RpL w.F ds vs) (hb : w.F b = some (.lst ws)) (r2 : RpL w.F es ws) : JOk w (Itz K a b) (pairs ds es) fun _ => True where
  stop := fun {w' M H} i g h _ hi => by
    refine ⟨vs, ws, SqL.of (h.sub _ _ (g.F _ _ ha)), SqL.of (h.sub _ _ (g.F _ _ hb)), ?_⟩
    rw [← r.length, ← r2.length]
    simp [pairs, List.length_zip] at hi
    omega
  go := fun {w' M H} i g h _ hi => by
    simp [pairs, List.length_zip] at hi
    have h1 : i < vs.length := by rw [← r.length]; omega
    have h2 : i < ws.length := by rw [← r2.length]; omega
    exact ⟨vs, ws, vs[i], ws[i], SqL.of (h.sub _ _ (g.F _ _ ha)), SqL.of (h.sub _ _ (g.F _ _ hb)), List.getElem?_eq_getElem h1, List.getElem?_eq_getElem h2⟩
  yld := fun {w' M H H' v u} i g h _ hu y => by
    obtain ⟨T, x, y', rfl, hT, rfl, y1, y2⟩ := y
    obtain ⟨d, e, h1, h2, rfl⟩ := zip_get hu
    obtain ⟨v1, h3, h4⟩ := r.get h1
    obtain ⟨v2, h5, h6⟩ := r2.get h2
    have q1 := y1 vs (SqL.of (h.sub _ _ (g.F _ _ ha)))
    have q2 := y2 ws (SqL.of (h.sub _ _ (g.F _ _ hb)))
    rw [h3] at q1; rw [h5] at q2
    have q3 := Option.some.inj q1
    have q4 := Option.some.inj q2
    subst q3 q4
    have m := g.F.trans (same_put (o := .tup [v1, v2]) (h.newF hT))
    exact ⟨w'.put T _, Step.put h hT, h.put hT, RU.D (.tup Wd.putF (.cons (h4.mono m) (.cons (h6.mono m) .nil)))⟩
theorem j_zipT {K : PySem.W.Frag} {w : Wd} {a b : Addr} {vs ws : List V} {ds es : List PyData} (ha : w.F a = some (.tup vs)) (r : RpL w.F ds vs) (hb : w.F b = some (.tup ws)) (r2 : RpL w.F es ws) : JOk w (RZ.ItzT K a b) (pairs ds es) fun _ => True where
  stop := fun {w' M H} i g h _ hi => by
    refine ⟨vs, ws, SqT.of (h.sub _ _ (g.F _ _ ha)), SqT.of (h.sub _ _ (g.F _ _ hb)), ?_⟩
    rw [← r.length, ← r2.length]
    simp [pairs, List.length_zip] at hi
    omega
  go := fun {w' M H} i g h _ hi => by
    simp [pairs, List.length_zip] at hi
    have h1 : i < vs.length := by rw [← r.length]; omega
    have h2 : i < ws.length := by rw [← r2.length]; omega
    exact ⟨vs, ws, vs[i], ws[i], SqT.of (h.sub _ _ (g.F _ _ ha)), SqT.of (h.sub _ _ (g.F _ _ hb)), List.getElem?_eq_getElem h1, List.getElem?_eq_getElem h2⟩
  yld := fun {w' M H H' v u} i g h _ hu y => by
    obtain ⟨T, x, y', rfl, hT, rfl, y1, y2⟩ := y
    obtain ⟨d, e, h1, h2, rfl⟩ := zip_get hu
    obtain ⟨v1, h3, h4⟩ := r.get h1
    obtain ⟨v2, h5, h6⟩ := r2.get h2
    have q1 := y1 vs (SqT.of (h.sub _ _ (g.F _ _ ha)))
    have q2 := y2 ws (SqT.of (h.sub _ _ (g.F _ _ hb)))
    rw [h3] at q1; rw [h5] at q2
    have q3 := Option.some.inj q1
    have q4 := Option.some.inj q2
    subst q3 q4
    have m := g.F.trans (same_put (o := .tup [v1, v2]) (h.newF hT))
    exact ⟨w'.put T _, Step.put h hT, h.put hT, RU.D (.tup Wd.putF (.cons (h4.mono m) (.cons (h6.mono m) .nil)))⟩
def wIZip (wr : WA) : WI := fun ρ M Q => wr ρ M fun us M1 => ∃ ds es, (us = [.d (.list ds), .d (.list es)] ∨ us = [.d (.tuple ds), .d (.tuple es)]) ∧ Q (pairs ds es) (fun _ => True) M1
theorem li_zip {K : PySem.W.Frag} {tr : TA} {wr : WA} (hr : LA tr wr) : LI (RZ.iZipA K tr) (wIZip wr) := fun _ _ _ _ _ _ _ h e hq k =>
  hr h e hq fun _ _ _ _ _ s1 h1 r1 q1 => by
    obtain ⟨ds, es, hu, q⟩ := q1
    rcases hu with rfl | rfl
    · obtain ⟨v1, v2, rfl, x1, x2⟩ := rus2 r1
      cases (show Rp _ _ _ from x1) with
      | lst ha ra =>
        cases (show Rp _ _ _ from x2) with
        | lst hb rb => exact ⟨_, _, _, _, rfl, .inl ⟨SqL.of (h1.sub _ _ ha), SqL.of (h1.sub _ _ hb), k _ _ _ _ _ _ s1 h1 (j_zip ha ra hb rb) q⟩⟩
    · obtain ⟨v1, v2, rfl, x1, x2⟩ := rus2 r1
      cases (show Rp _ _ _ from x1) with
      | tup ha ra =>
        cases (show Rp _ _ _ from x2) with
        | tup hb rb => exact ⟨_, _, _, _, rfl, .inr ⟨SqT.of (h1.sub _ _ ha), SqT.of (h1.sub _ _ hb), k _ _ _ _ _ _ s1 h1 (j_zipT ha ra hb rb) q⟩⟩
/-- enumerate of a list of data -/
def counted (ds : List PyData) : List U := ds.zipIdx.map fun p => U.d (.tuple [.int (p.2 : Nat), p.1])
theorem counted_get {ds : List PyData} {i : Nat} {u : U} (h : (counted ds)[i]? = some u) : ∃ d, ds[i]? = some d ∧ u = .d (.tuple [.int (i : Nat), d]) := by
  unfold counted at h
  rw [List.getElem?_map, List.getElem?_zipIdx] at h
  cases q : ds[i]? with
  | none => rw [q] at h; cases h
  | some d => rw [q] at h; exact ⟨d, rfl, by simpa using (Option.some.inj h).symm⟩
theorem j_enum {K : PySem.W.Frag} {w : Wd} {a : Addr} {vs : List V} {ds : List PyData} (ha : w.F a = some (.lst vs)) (r : RpL w.F ds vs) : JOk w (Ite K a) (counted ds) fun _ => True where
  stop := fun {w' M H} i g h _ hi => ⟨vs, SqL.of (h.sub _ _ (g.F _ _ ha)), by rw [← r.length]; simpa [counted] using hi⟩
  go := fun {w' M H} i g h _ hi => by
    have hi' : i < vs.length := by rw [← r.length]; simpa [counted] using hi
    exact ⟨vs, vs[i], SqL.of (h.sub _ _ (g.F _ _ ha)), List.getElem?_eq_getElem hi'⟩
  yld := fun {w' M H H' v u} i g h _ hu y => by
    obtain ⟨T, x, rfl, hT, rfl, y1⟩ := y
    obtain ⟨d, h1, rfl⟩ := counted_get hu
    obtain ⟨v1, h3, h4⟩ := r.get h1
    have q1 := y1 vs (SqL.of (h.sub _ _ (g.F _ _ ha)))
    rw [h3] at q1
    have q3 := Option.some.inj q1
    subst q3
    have m := g.F.trans (same_put (o := .tup [.int (i : Nat), v1]) (h.newF hT))
    exact ⟨w'.put T _, Step.put h hT, h.put hT, RU.D (.tup Wd.putF (.cons (.int _) (.cons (h4.mono m) .nil)))⟩
def wIEnum (wr : WA) : WI := fun ρ M Q => wr ρ M fun us M1 => ∃ ds, us = [.d (.list ds)] ∧ Q (counted ds) (fun _ => True) M1
theorem li_enum {K : PySem.W.Frag} {tr : TA} {wr : WA} (hr : LA tr wr) : LI (iEnum K tr) (wIEnum wr) := fun _ _ _ _ _ _ _ h e hq k =>
  hr h e hq fun _ _ _ _ _ s1 h1 r1 q1 => by
    obtain ⟨ds, rfl, q⟩ := q1
    obtain ⟨v1, rfl, x1⟩ := rus1 r1
    cases (show Rp _ _ _ from x1) with
    | lst ha ra => exact ⟨_, _, rfl, SqL.of (h1.sub _ _ ha), k _ _ _ _ _ _ s1 h1 (j_enum ha ra) q⟩
/-- the signs of a text -/
def signs (x : Str) : List U := x.cps.toList.map fun c => U.d (.str ⟨#[c]⟩)
theorem j_str {w : Wd} {x : Str} : JOk w (Its x) (signs x) fun _ => True where
  stop := fun i _ _ _ hi => by
    show x.cps.size ≤ i
    simpa [signs] using hi
  go := fun i _ _ _ hi => by
    show i < x.cps.size
    simpa [signs] using hi
  yld := fun {w' M H H' v u} i g h _ hu y => by
    obtain ⟨rfl, c, hc, rfl⟩ := y
    unfold signs at hu
    rw [List.getElem?_map, Array.getElem?_toList, hc] at hu
    cases (Option.some.inj hu)
    exact ⟨w', Step.refl _ _, h, RU.D (.str _)⟩
def wIStr (we : WE) : WI := fun ρ M Q => we ρ M fun x M1 => ∃ z, x = .d (.str z) ∧ Q (signs z) (fun _ => True) M1
theorem li_str {te : TE} {we : WE} (he : LE te we) : LI (iStr te) (wIStr we) := fun _ _ _ _ _ _ _ h e hq k =>
  he h e hq fun _ _ _ _ _ s1 h1 r1 q1 => by
    obtain ⟨z, rfl, q⟩ := q1
    cases (show Rp _ _ _ from r1)
    exact ⟨z, rfl, k _ _ _ _ _ _ s1 h1 j_str q⟩
end DL

namespace DL
open PySem L2
/-! ### comprehensions -/
def wipeR (ρ : Rho) : List Nat → Rho
  | [] => ρ
  | v :: vs => (wipeR ρ vs).set v none
theorem Env.unset {w : Wd} {σ : L2.St} {ρ : Rho} (e : Env w σ ρ) (i : Nat) : Env w (σ.set i none) (ρ.set i none) := by
  refine ⟨by rw [List.length_set, List.length_set]; exact e.len, fun j x h => ?_⟩
  by_cases hj : j = i
  · subst hj
    have hl : j < ρ.length := by
      have := (List.getElem?_eq_some_iff.mp h).1
      rw [List.length_set] at this; exact this
    rw [List.getElem?_set_self hl] at h
    cases h
  · rw [List.getElem?_set_ne (fun q => hj q.symm)] at h
    rw [List.getElem?_set_ne (fun q => hj q.symm)]
    exact e.at_ j x h
theorem Env.wipe {w : Wd} {σ : L2.St} {ρ : Rho} (e : Env w σ ρ) : ∀ vs : List Nat, Env w (L2.wipe σ vs) (wipeR ρ vs)
  | [] => e
  | v :: vs => (Env.wipe e vs).unset v
theorem wipe_set {σ : L2.St} {i : Nat} {x : Option V} : ∀ {vs : List Nat}, i ∈ vs → L2.wipe (σ.set i x) vs = L2.wipe σ vs
  | [], h => nomatch h
  | v :: vs, h => by
    show (L2.wipe (σ.set i x) vs).set v none = (L2.wipe σ vs).set v none
    by_cases hi : i ∈ vs
    · rw [wipe_set hi]
    · have hv : i = v := by
        rcases List.mem_cons.mp h with q | q
        · exact q
        · exact absurd q hi
      subst hv
      have out : ∀ {vs : List Nat} (τ : L2.St), i ∉ vs → L2.wipe (τ.set i x) vs = (L2.wipe τ vs).set i x := by
        intro vs
        induction vs with
        | nil => intro τ _; rfl
        | cons u us ih =>
          intro τ hu
          show (L2.wipe (τ.set i x) us).set u none = ((L2.wipe τ us).set u none).set i x
          rw [ih τ (fun m => hu (List.mem_cons_of_mem _ m)), List.set_comm]
          exact fun e => hu (by rw [e]; exact List.mem_cons_self)
      rw [out σ hi, List.set_set]
/-- a target within a comprehension's own slots -/
def LGv (vs : List Nat) (g : TG) (wg : WG) : Prop := ∀ ⦃w : Wd⦄ ⦃M : List Ob⦄ ⦃H : Hp⦄ ⦃σ : L2.St⦄ ⦃ρ : Rho⦄ ⦃u : U⦄ ⦃v : V⦄ ⦃Qu : Rho → List Ob → Prop⦄ ⦃Q : L2.St → Hp → Prop⦄, Hold w M H → Env w σ ρ → RU w u v → wg u ρ M Qu →
  (∀ (ρ' : Rho) (M' : List Ob) (σ' : L2.St) (w' : Wd) (H' : Hp), Step w H w' H' → Hold w' M' H' → Env w' σ' ρ' → wipe σ' vs = wipe σ vs → Qu ρ' M' → Q σ' H') → g v σ H Q
def LGvs (vs : List Nat) (g : TGs) (wg : WGs) : Prop := ∀ ⦃w : Wd⦄ ⦃M : List Ob⦄ ⦃H : Hp⦄ ⦃σ : L2.St⦄ ⦃ρ : Rho⦄ ⦃u : List U⦄ ⦃v : List V⦄ ⦃Qu : Rho → List Ob → Prop⦄ ⦃Q : L2.St → Hp → Prop⦄, Hold w M H → Env w σ ρ → RUs w u v → wg u ρ M Qu →
  (∀ (ρ' : Rho) (M' : List Ob) (σ' : L2.St) (w' : Wd) (H' : Hp), Step w H w' H' → Hold w' M' H' → Env w' σ' ρ' → wipe σ' vs = wipe σ vs → Qu ρ' M' → Q σ' H') → g v σ H Q
theorem lgv_name {vs : List Nat} {i : Nat} (hi : i ∈ vs) : LGv vs (gName i) (wName i) := fun _ _ _ _ _ _ _ _ _ h e r hq o => o _ _ _ _ _ (Step.refl _ _) h (e.set r i) (wipe_set hi) hq
theorem lgvs_nil {vs : List Nat} : LGvs vs gNil wgNil := fun _ _ _ _ _ _ _ _ _ h e r hq o => by
  obtain ⟨rfl, q⟩ := hq
  cases r
  exact ⟨rfl, o _ _ _ _ _ (Step.refl _ _) h e rfl q⟩
theorem lgvs_cons {vs : List Nat} {g : TG} {wg : WG} {gr : TGs} {wr : WGs} (hg : LGv vs g wg) (hr : LGvs vs gr wr) : LGvs vs (gCons g gr) (wgCons wg wr) := fun _ _ _ _ _ _ _ _ _ h e r hq o => by
  obtain ⟨u, us, rfl, q⟩ := hq
  cases r with
  | cons r rs => exact ⟨_, _, rfl, hg h e r q fun _ _ _ _ _ s1 h1 e1 z1 q1 => hr h1 e1 (RUs.grow s1.grow rs) q1 fun _ _ _ _ _ s2 h2 e2 z2 q2 => o _ _ _ _ _ (s1.trans h1 s2) h2 e2 (z2.trans z1) q2⟩
theorem lgv_tup {vs : List Nat} {K : PySem.W.Frag} {n : Nat} {gr : TGs} {wr : WGs} (hr : LGvs vs gr wr) : LGv vs (gTup K n gr) (wgTup n wr) := fun _ _ _ _ _ _ _ _ _ h e r hq o => by
  obtain ⟨us, e1, hl, q⟩ := hq
  obtain ⟨a, xs, rfl, ha, rs⟩ := tupU_ok h r e1
  exact ⟨a, xs, rfl, SqT.of ha, by rw [← Paired.length rs]; exact hl, hr h e rs q o⟩
/-- an object of the code's own beside the cells -/
structure Prv (w : Wd) (H : Hp) (D : Addr) (acc : List U) : Prop where
  at_ : ∃ vs, H D = some (.lst vs) ∧ RUs w acc vs
  F : w.F D = none
  th : D ∉ w.th
theorem Prv.step {w w' : Wd} {H H' : Hp} {D : Addr} {acc : List U} (p : Prv w H D acc) (s : Step w H w' H') : Prv w' H' D acc := by
  obtain ⟨vs, h1, h2⟩ := p.at_
  refine ⟨⟨vs, s.fr _ _ h1 p.th, RUs.grow s.grow h2⟩, ?_, fun m => ?_⟩
  · cases e : w'.F D with
    | none => rfl
    | some o =>
      rcases s.own D o p.F e with q | q
      · rw [h1] at q; cases q
      · exact absurd q p.th
  · obtain ⟨t, e, ht⟩ := s.th
    rw [e] at m
    rcases List.mem_append.mp m with q | q
    · exact p.th q
    · have := ht D q
      rw [h1] at this; cases this
theorem Hold.prv {w : Wd} {M : List Ob} {H : Hp} {D : Addr} {o : HO} (h : Hold w M H) (hF : w.F D = none) (ht : D ∉ w.th) : Hold w M (upd H D o) := by
  refine ⟨h.len, h.nd, fun a u e => ?_, fun n a m e1 e2 => ?_⟩
  · rw [upd_ne (ne_of_none e hF)]; exact h.sub a u e
  · obtain ⟨u, e3, e4⟩ := h.cell n a m e1 e2
    have ha : a ≠ D := fun q => ht (by rw [← q]; exact List.mem_of_getElem? e1)
    exact ⟨u, by rw [upd_ne ha]; exact e3, e4⟩
theorem Step.prv {w w' : Wd} {H H' : Hp} {D : Addr} {o : HO} (s : Step w H w' H') (hD : H D = none) : Step w H w' (upd H' D o) :=
  ⟨s.F, s.th, fun a u e n => by rw [upd_ne (ne_of_none e hD)]; exact s.fr a u e n, s.own⟩
theorem Hold.prvPut {w : Wd} {M : List Ob} {H : Hp} {D : Addr} {o : HO} (h : Hold w M H) (hF : w.F D = none) (ht : D ∉ w.th) (ho : H D = some o) : Hold (w.put D o) M H := by
  refine ⟨h.len, h.nd, fun a u e => ?_, fun n a m e1 e2 => ?_⟩
  · by_cases ha : a = D
    · subst ha; rw [Wd.putF] at e; rw [ho]; exact e
    · rw [Wd.putF_ne ha] at e; exact h.sub a u e
  · obtain ⟨u, e3, e4⟩ := h.cell n a m e1 e2
    have ha : a ≠ D := fun q => ht (by rw [← q]; exact List.mem_of_getElem? (show w.th[n]? = some a from e1))
    exact ⟨u, e3, e4.imp id fun ⟨q1, q2⟩ => ⟨by rw [Wd.putF_ne ha]; exact q1, q2.grow (Grow.put hF)⟩⟩
theorem Step.prvPut {w w' : Wd} {H H' : Hp} {D : Addr} {o : HO} (s : Step w H w' H') (hD : H D = none) (hF : w'.F D = none) : Step w H (w'.put D o) H' := by
  refine ⟨s.F.trans (same_put hF), s.th, s.fr, fun a u e1 e2 => ?_⟩
  by_cases ha : a = D
  · subst ha; exact .inl hD
  · rw [Wd.putF_ne ha] at e2; exact s.own a u e1 e2
theorem Step.none_back {w w' : Wd} {M' : List Ob} {H H' : Hp} {D : Addr} (s : Step w H w' H') (h : Hold w' M' H') (hD : H' D = none) : H D = none := by
  refine DL.none_back (fun o e => s.fr D o e fun m => ?_) hD
  obtain ⟨t, q, _⟩ := s.th
  obtain ⟨o, e⟩ := h.live (a := D) (by rw [q]; exact List.mem_append_left _ m)
  rw [hD] at e; cases e

abbrev WK := Rho → List Ob → List U → (List U → List Ob → Prop) → Prop
/-- the turns of a comprehension: k fills the list -/
def wLcGo (G : List Ob → Prop) (wg : WG) (k : WK) (ρ : Rho) : List U → List U → List Ob → (List U → List Ob → Prop) → Prop
  | [], acc, M, Q => G M ∧ Q acc M
  | u :: us, acc, M, Q => G M ∧ wg u ρ M fun ρ1 M1 => k ρ1 M1 acc fun acc' M2 => wLcGo G wg k ρ us acc' M2 Q
theorem wLcGo_G {G : List Ob → Prop} {wg : WG} {k : WK} {ρ : Rho} : ∀ {us acc : List U} {M : List Ob} {Q : List U → List Ob → Prop}, wLcGo G wg k ρ us acc M Q → G M
  | [], _, _, _, h => h.1
  | _ :: _, _, _, _, h => h.1
theorem wLcGo_rec {G : List Ob → Prop} {wg : WG} {k : WK} {ρ : Rho} {Q : List U → List Ob → Prop} (I : List U → List U → List Ob → Prop) (h0 : ∀ acc M, I [] acc M → G M ∧ Q acc M)
    (h1 : ∀ u us, (∀ acc M, I us acc M → wLcGo G wg k ρ us acc M Q) → ∀ acc M, I (u :: us) acc M → G M ∧ wg u ρ M fun ρ1 M1 => k ρ1 M1 acc fun acc' M2 => wLcGo G wg k ρ us acc' M2 Q) :
    ∀ us acc M, I us acc M → wLcGo G wg k ρ us acc M Q := by
  intro us
  induction us with
  | nil => intro acc M h; exact h0 acc M h
  | cons u us ih => intro acc M h; exact h1 u us ih acc M h
/-- one clause: the test, the element -/
def kElt (wt : WT) (we : WE) : WK := fun ρ M acc Q => wt ρ M fun b M2 => if b = true then we ρ M2 fun x M3 => acc.length < sizeLine ∧ Q (acc ++ [x]) M3 else Q acc M2
/-- a second clause -/
def kFor (wt : WT) (ww : WI) (wg : WG) (k : WK) (vs1 : List Nat) : WK := fun ρ M acc Q => wt ρ M fun b M2 => if b = true then ww ρ M2 fun us G M3 => wLcGo G wg k (wipeR ρ vs1) us acc M3 Q else Q acc M2
/-- what the code's fill does -/
def LK (D : Addr) (f : L2.St → Hp → (Hp → Prop) → Prop) (k : WK) : Prop := ∀ ⦃w : Wd⦄ ⦃M : List Ob⦄ ⦃H : Hp⦄ ⦃σ : L2.St⦄ ⦃ρ : Rho⦄ ⦃acc : List U⦄ ⦃Qu : List U → List Ob → Prop⦄ ⦃N : Hp → Prop⦄, Hold w M H → Env w σ ρ → Prv w H D acc → k ρ M acc Qu →
  (∀ (acc' : List U) (M' : List Ob) (w' : Wd) (H' : Hp), (∀ {w0 : Wd} {H0 : Hp}, H0 D = none → Step w0 H0 w H → Step w0 H0 w' H') → Grow w w' → Hold w' M' H' → Prv w' H' D acc' → Qu acc' M' → N H') → f σ H N
def fElt (D : Addr) (tt : TT) (te : TE) : L2.St → Hp → (Hp → Prop) → Prop := fun σ2 H2 N => tt σ2 H2 fun b H3 => if b = true then te σ2 H3 fun y H4 => ∃ acc, H4 D = some (.lst acc) ∧ acc.length < sizeLine ∧ N (upd H4 D (.lst (acc ++ [y]))) else N H3
theorem lk_elt {D : Addr} {tt : TT} {te : TE} {wt : WT} {we : WE} (ht : LT tt wt) (he : LE te we) : LK D (fElt D tt te) (kElt wt we) := fun w M H σ ρ acc Qu N h e p hq o =>
  ht h e hq fun b M2 c w2 H2 s2 h2 r2 q2 => by
    have r : b = c := r2
    subst r
    cases b with
    | false => exact o _ _ _ _ (fun _ s => s.trans h s2) s2.grow h2 (p.step s2) q2
    | true =>
      refine he h2 (e.grow s2.grow) q2 fun x M3 y w3 H3 s3 h3 r3 q3 => ?_
      have s23 := s2.trans h2 s3
      have p3 := p.step s23
      obtain ⟨vs, hv, rv⟩ := p3.at_
      refine ⟨vs, hv, by rw [← Paired.length rv]; exact q3.1, ?_⟩
      exact o (acc ++ [x]) M3 w3 _ (fun hD s => (s.trans h s23).prv hD) s23.grow (h3.prv p3.F p3.th) ⟨⟨_, upd_same, paired_snoc rv r3⟩, p3.F, p3.th⟩ q3.2
/-- the loop of one clause -/
def fLoop (D : Addr) (J : It) (g : TG) (σ : L2.St) (vs : List Nat) (f : L2.St → Hp → (Hp → Prop) → Prop) (Qd : Hp → Prop) (W : Nat → Nat → Hp → Prop) : Prop := ∀ i m H, W i m H →
  (J.stop i H ∧ Qd H) ∨ (J.go i H ∧ ∃ Nx : Hp → Prop, (∀ H', Nx H' → ∃ m', m' < m ∧ W (i + 1) m' H') ∧ ∀ x H', J.yld i H x H' → g x (wipe σ vs) H' fun σ2 H2 => wipe σ2 vs = wipe σ vs ∧ f σ2 H2 Nx)
theorem loop_ok {D : Addr} {J : It} {g : TG} {wg : WG} {f : L2.St → Hp → (Hp → Prop) → Prop} {k : WK} {vs : List Nat} {σ : L2.St} {ρ : Rho} {us acc : List U} {G : List Ob → Prop} {w1 : Wd} {M1 : List Ob} {H1 : Hp} {Qu : List U → List Ob → Prop} {Qd : Hp → Prop}
    (hg : LGv vs g wg) (hk : LK D f k) (h1 : Hold w1 M1 H1) (e : Env w1 σ ρ) (p : Prv w1 H1 D acc) (j : JOk w1 J us G) (q : wLcGo G wg k (wipeR ρ vs) us acc M1 Qu)
    (o : ∀ (acc' : List U) (M' : List Ob) (w' : Wd) (H' : Hp), (∀ {w0 : Wd} {H0 : Hp}, H0 D = none → Step w0 H0 w1 H1 → Step w0 H0 w' H') → Grow w1 w' → Hold w' M' H' → Prv w' H' D acc' → Qu acc' M' → Qd H') :
    ∃ W : Nat → Nat → Hp → Prop, (∃ m, W 0 m H1) ∧ fLoop D J g σ vs f Qd W := by
  refine ⟨fun i m H' => m = us.length - i ∧ ∃ w' M' acc', (∀ {w0 : Wd} {H0 : Hp}, H0 D = none → Step w0 H0 w1 H1 → Step w0 H0 w' H') ∧ Grow w1 w' ∧ Hold w' M' H' ∧ Prv w' H' D acc' ∧ wLcGo G wg k (wipeR ρ vs) (us.drop i) acc' M' Qu,
    ⟨us.length, by simp, w1, M1, acc, fun _ s => s, Grow.refl _, h1, p, q⟩, ?_⟩
  rintro i m H' ⟨hm, w', M', acc', s', g', h', p', q'⟩
  by_cases hi' : i < us.length
  · right
    have hG := wLcGo_G q'
    rw [List.drop_eq_getElem_cons hi'] at q'
    refine ⟨j.go i g' h' hG hi', fun H2 => ∃ w2 M2 acc2, (∀ {w0 : Wd} {H0 : Hp}, H0 D = none → Step w0 H0 w1 H1 → Step w0 H0 w2 H2) ∧ Grow w1 w2 ∧ Hold w2 M2 H2 ∧ Prv w2 H2 D acc2 ∧ wLcGo G wg k (wipeR ρ vs) (us.drop (i + 1)) acc2 M2 Qu, ?_, fun v H2 y => ?_⟩
    · rintro H2 ⟨w2, M2, acc2, z⟩
      exact ⟨us.length - (i + 1), by omega, rfl, w2, M2, acc2, z⟩
    · obtain ⟨w2, s2, h2, r2⟩ := j.yld i g' h' hG (List.getElem?_eq_getElem hi') y
      have g2 := g'.trans s2.grow
      refine hg h2 ((e.wipe vs).grow g2) r2 q'.2 fun ρ3 M3 σ3 w3 H3 s3 h3 e3 z3 q3 => ?_
      have s23 := s2.trans h2 s3
      refine ⟨z3.trans ?_, hk h3 e3 (p'.step s23) q3 fun acc4 M4 w4 H4 s4 g4 h4 p4 q4 => ⟨w4, M4, acc4, fun hD s => s4 hD ((s' hD s).trans h' s23), (g2.trans s3.grow).trans g4, h4, p4, q4⟩⟩
      have ww : ∀ (vs us : List Nat) (τ : L2.St), (∀ i ∈ us, i ∈ vs) → wipe (wipe τ us) vs = wipe τ vs := by
        intro vs us
        induction us with
        | nil => intro τ _; rfl
        | cons u us ih =>
          intro τ hu
          show wipe ((wipe τ us).set u none) vs = wipe τ vs
          rw [wipe_set (hu u List.mem_cons_self), ih τ fun i hi => hu i (List.mem_cons_of_mem _ hi)]
      exact ww vs vs σ fun _ h => h
  · left
    rw [List.drop_of_length_le (by omega)] at q'
    exact ⟨j.stop i g' h' q'.1 (by omega), o _ _ _ _ s' g' h' p' q'.2⟩
end DL

namespace DL
open PySem L2
def fFor (D : Addr) (tt : TT) (wi : TI) (g : TG) (vs : List Nat) (f : L2.St → Hp → (Hp → Prop) → Prop) : L2.St → Hp → (Hp → Prop) → Prop := fun σ2 H2 N => tt σ2 H2 fun b H3 =>
  if b = true then wi σ2 H3 fun J H4 => ∃ W : Nat → Nat → Hp → Prop, (∃ m, W 0 m H4) ∧ fLoop D J g σ2 vs f N W else N H3
theorem lk_for {D : Addr} {tt : TT} {wt : WT} {wi : TI} {ww : WI} {g : TG} {wg : WG} {vs : List Nat} {f : L2.St → Hp → (Hp → Prop) → Prop} {k : WK} (ht : LT tt wt) (hi : LI wi ww) (hg : LGv vs g wg) (hk : LK D f k) : LK D (fFor D tt wi g vs f) (kFor wt ww wg k vs) :=
  fun {w M H σ ρ acc Qu N} h e p hq o =>
  ht h e hq fun b M2 c w2 H2 s2 h2 r2 q2 => by
    have r : b = c := r2
    subst r
    cases b with
    | false => exact o _ _ _ _ (fun _ s => s.trans h s2) s2.grow h2 (p.step s2) q2
    | true =>
      refine hi h2 (e.grow s2.grow) q2 fun us G M3 J w3 H3 s3 h3 j q3 => ?_
      have s23 := s2.trans h2 s3
      exact loop_ok hg hk h3 (e.grow s23.grow) (p.step s23) j q3 fun acc4 M4 w4 H4 s4 g4 h4 p4 q4 => o acc4 M4 w4 H4 (fun hD s => s4 hD (s.trans h s23)) (s23.grow.trans g4) h4 p4 q4
/-- a comprehension's list as data; as a new cell -/
def wLcD (ww : WI) (wg : WG) (k : WK) (vs : List Nat) : WE := fun ρ M Q => ww ρ M fun us G M1 => wLcGo G wg k (wipeR ρ vs) us [] M1 fun acc M2 => ∃ ds, dats acc = some ds ∧ Q (.d (.list ds)) M2
def wLcC (ww : WI) (wg : WG) (k : WK) (vs : List Nat) : WE := fun ρ M Q => ww ρ M fun us G M1 => wLcGo G wg k (wipeR ρ vs) us [] M1 fun acc M2 => ∃ ds, dats acc = some ds ∧ Q (.p M2.length) (M2 ++ [.lst ds])
theorem prv_put {w w' : Wd} {M' : List Ob} {H H' : Hp} {D : Addr} {acc : List U} {ds : List PyData} {Qu : U → List Ob → Prop} {Q : VK} (s : Step w H w' H') (hD : H D = none) (h : Hold w' M' H') (p : Prv w' H' D acc) (e : dats acc = some ds) (q : Qu (.d (.list ds)) M') (o : Out RU w H Qu Q) : Q (.ref D) H' := by
  obtain ⟨vs, hv, rv⟩ := p.at_
  have r := dats_ok rv e
  exact o _ _ _ _ _ (s.prvPut hD p.F) (h.prvPut p.F p.th hv) (RU.D (.lst Wd.putF (r.mono (same_put p.F)))) q
theorem Hold.prvCell {w : Wd} {M : List Ob} {H : Hp} {D : Addr} {o : HO} {m : Ob} (h : Hold w M H) (hF : w.F D = none) (ht : D ∉ w.th) (ho : H D = some o) (r : RO (w.cell D) m o) : Hold (w.cell D) (M ++ [m]) H := by
  refine ⟨by simp [Wd.cell, h.len], ?_, h.sub, fun n a m' e1 e2 => ?_⟩
  · refine List.nodup_append.mpr ⟨h.nd, by simp, fun a ha b hb => ?_⟩
    simp at hb; subst hb
    exact fun e => ht (e ▸ ha)
  · by_cases hn : n < w.th.length
    · rw [Wd.cell, List.getElem?_append_left hn] at e1
      rw [List.getElem?_append_left (by rw [← h.len]; exact hn)] at e2
      obtain ⟨u, e3, e4⟩ := h.cell n a m' e1 e2
      exact ⟨u, e3, e4.imp id fun ⟨q1, q2⟩ => ⟨q1, q2.grow Grow.cell⟩⟩
    · have hn' : n = w.th.length := by
        have := (List.getElem?_eq_some_iff.mp e1).1
        simp [Wd.cell] at this
        omega
      subst hn'
      simp [Wd.cell] at e1
      rw [h.len] at e2
      simp at e2
      subst e1; subst e2
      exact ⟨o, ho, .inr ⟨hF, r⟩⟩
theorem Step.prvCell {w w' : Wd} {H H' : Hp} {D : Addr} (s : Step w H w' H') (hD : H D = none) : Step w H (w'.cell D) H' := by
  obtain ⟨t, e, ht⟩ := s.th
  refine ⟨s.F, ⟨t ++ [D], by rw [Wd.cell, e, List.append_assoc], fun a ha => ?_⟩, s.fr, s.own⟩
  rcases List.mem_append.mp ha with q | q
  · exact ht a q
  · simp at q; subst q; exact hD
theorem prv_cell {w w' : Wd} {M' : List Ob} {H H' : Hp} {D : Addr} {acc : List U} {ds : List PyData} {Qu : U → List Ob → Prop} {Q : VK} (s : Step w H w' H') (hD : H D = none) (h : Hold w' M' H') (p : Prv w' H' D acc) (e : dats acc = some ds) (q : Qu (.p M'.length) (M' ++ [.lst ds])) (o : Out RU w H Qu Q) : Q (.ref D) H' := by
  obtain ⟨vs, hv, rv⟩ := p.at_
  have r := dats_ok rv e
  exact o _ _ _ _ _ (s.prvCell hD) (h.prvCell p.F p.th hv (RO.L r)) (RU.P (Wd.cell_at h)) q
section
variable {wi wi1 : TI} {ww ww1 : WI} {g g1 : TG} {wg wg1 : WG} {tt tt1 : TT} {wt wt1 : WT} {te : TE} {we : WE} {vs vs1 : List Nat}
theorem lc_begin {f : Addr → L2.St → Hp → (Hp → Prop) → Prop} {k : WK} {w : Wd} {M : List Ob} {H : Hp} {σ : L2.St} {ρ : Rho} {Qu : List U → List Ob → Prop} {Q : VK} (hi : LI wi ww) (hg : LGv vs g wg) (hk : ∀ D, LK D (f D) k) (h : Hold w M H) (e : Env w σ ρ)
    (q : ww ρ M fun us G M1 => wLcGo G wg k (wipeR ρ vs) us [] M1 Qu)
    (o : ∀ (D : Addr) (acc : List U) (M' : List Ob) (w' : Wd) (H' : Hp), H D = none → Step w H w' H' → Hold w' M' H' → Prv w' H' D acc → Qu acc M' → Q (.ref D) H') :
    wi σ H fun J H1 => ∀ D, H1 D = none → ∃ W : Nat → Nat → Hp → Prop, (∃ m, W 0 m (upd H1 D (.lst []))) ∧ fLoop D J g σ vs (f D) (fun H => Q (.ref D) H) W := by
  refine hi h e q fun us G M1 J w1 H1 s1 h1 j q1 D hD => ?_
  have hD0 := s1.none_back h1 hD
  refine loop_ok hg (hk D) (h1.prv (h1.newF hD) (h1.off hD)) (e.grow s1.grow) ⟨⟨[], upd_same, .nil⟩, h1.newF hD, h1.off hD⟩ j q1 fun acc' M' w' H' s' g' h' p' q' => ?_
  exact o D acc' M' w' H' hD0 (s' hD0 (s1.prv hD0)) h' p' q'
theorem le_lc (hi : LI wi ww) (hg : LGv vs g wg) (ht : LT tt wt) (he : LE te we) : LE (tLc wi g tt te vs) (wLcD ww wg (kElt wt we) vs) := fun w M H σ ρ Qu Q h e hq o =>
  lc_begin (f := fun D => fElt D tt te) hi hg (fun D => lk_elt ht he) h e hq fun D acc M' w' H' hD s h' p q => by
    obtain ⟨ds, e1, q⟩ := q
    exact prv_put s hD h' p e1 q o
theorem le_lcC (hi : LI wi ww) (hg : LGv vs g wg) (ht : LT tt wt) (he : LE te we) : LE (tLc wi g tt te vs) (wLcC ww wg (kElt wt we) vs) := fun w M H σ ρ Qu Q h e hq o =>
  lc_begin (f := fun D => fElt D tt te) hi hg (fun D => lk_elt ht he) h e hq fun D acc M' w' H' hD s h' p q => by
    obtain ⟨ds, e1, q⟩ := q
    exact prv_cell s hD h' p e1 q o
theorem le_lc2 (hi : LI wi ww) (hg : LGv vs g wg) (ht : LT tt wt) (hi1 : LI wi1 ww1) (hg1 : LGv vs1 g1 wg1) (ht1 : LT tt1 wt1) (he : LE te we) : LE (tLc2 wi g tt wi1 g1 tt1 te vs vs1) (wLcD ww wg (kFor wt ww1 wg1 (kElt wt1 we) vs1) vs) := fun w M H σ ρ Qu Q h e hq o =>
  lc_begin (f := fun D => fFor D tt wi1 g1 vs1 (fElt D tt1 te)) hi hg (fun D => lk_for ht hi1 hg1 (lk_elt ht1 he)) h e hq fun D acc M' w' H' hD s h' p q => by
    obtain ⟨ds, e1, q⟩ := q
    exact prv_put s hD h' p e1 q o
theorem le_lc2C (hi : LI wi ww) (hg : LGv vs g wg) (ht : LT tt wt) (hi1 : LI wi1 ww1) (hg1 : LGv vs1 g1 wg1) (ht1 : LT tt1 wt1) (he : LE te we) : LE (tLc2 wi g tt wi1 g1 tt1 te vs vs1) (wLcC ww wg (kFor wt ww1 wg1 (kElt wt1 we) vs1) vs) := fun w M H σ ρ Qu Q h e hq o =>
  lc_begin (f := fun D => fFor D tt wi1 g1 vs1 (fElt D tt1 te)) hi hg (fun D => lk_for ht hi1 hg1 (lk_elt ht1 he)) h e hq fun D acc M' w' H' hD s h' p q => by
    obtain ⟨ds, e1, q⟩ := q
    exact prv_cell s hD h' p e1 q o
end
/-! ### defs and their promises -/
abbrev DSp := List U → List Ob → (U → List Ob → Prop) → Prop
def liftSp (d : DSp) : Sp := fun vs H Q _ => ∃ (w : Wd) (M : List Ob) (us : List U) (Qu : U → List Ob → Prop), Hold w M H ∧ RUs w us vs ∧ d us M Qu ∧ Out RU w H Qu Q
/-- the world of a def: some of the caller's cells -/
theorem pure_call {w : Wd} {M : List Ob} {H : Hp} (h : Hold w M H) : Hold ⟨w.F, []⟩ [] H := ⟨rfl, .nil, h.sub, fun n a m e => by simp at e⟩
theorem pure_back {w w' : Wd} {M M' : List Ob} {H H' : Hp} (h : Hold w M H) (s : Step ⟨w.F, []⟩ H w' H') (h' : Hold w' M' H') : Hold ⟨w'.F, w.th⟩ M H' ∧ Step w H ⟨w'.F, w.th⟩ H' := by
  have nf : ∀ a, a ∈ w.th → w.F a = none → w'.F a = none := fun a ha e => by
    cases q : w'.F a with
    | none => rfl
    | some o =>
      rcases s.own a o e q with z | z
      · obtain ⟨o', e'⟩ := h.live ha
        rw [z] at e'; cases e'
      · cases z
  refine ⟨⟨h.len, h.nd, h'.sub, fun n a m e1 e2 => ?_⟩, ⟨s.F, ⟨[], by simp, by simp⟩, fun a o e n => s.fr a o e (by simp), fun a o e1 e2 => ?_⟩⟩
  · obtain ⟨o, e3, e4⟩ := h.cell n a m e1 e2
    exact ⟨o, s.fr a o e3 (by simp), e4.imp id fun ⟨q1, q2⟩ => ⟨nf a (List.mem_of_getElem? e1) q1, RO.grow (w := w) (w' := ⟨w'.F, w.th⟩) ⟨s.F, fun _ _ z => z⟩ q2⟩⟩
  · rcases s.own a o e1 e2 with z | z
    · exact .inl z
    · cases z
/-- a call that is handed data and hands back data -/
def wCallP (d : DSp) (dv : List PyData) (wr : WA) : WE := fun ρ M Q => wr ρ M fun us M1 => ∃ ds, dats us = some ds ∧ d ((ds ++ dv).map U.d) [] fun u Mc => ∃ z, u = .d z ∧ Q (.d z) M1
theorem le_callP {d : DSp} {dvs : List V} {dv : List PyData} {E : XK} {tr : TA} {wr : WA} (hd : ∀ w : Wd, RUs w (dv.map U.d) dvs) (hr : LA tr wr) : LE (tCall (liftSp d) dvs E tr) (wCallP d dv wr) := fun _ _ _ _ _ _ _ h e hq o =>
  hr h e hq fun us M1 vs w1 H1 s1 h1 r1 q1 => by
    obtain ⟨ds, e1, q⟩ := q1
    refine ⟨⟨w1.F, []⟩, [], _, _, pure_call h1, ?_, q, fun u Mc v w2 H2 s2 h2 r2 q2 => ?_⟩
    · rw [List.map_append]
      have r := RUs.of (w := ⟨w1.F, []⟩) (show RpL w1.F ds vs from dats_ok r1 e1)
      have app : ∀ {as bs : List U} {xs ys : List V} {w : Wd}, RUs w as xs → RUs w bs ys → RUs w (as ++ bs) (xs ++ ys) := by
        intro as bs xs ys w a
        induction a with
        | nil => intro b; exact b
        | cons h _ ih => intro b; exact .cons h (ih b)
      exact app r (hd _)
    · obtain ⟨z, rfl, q2⟩ := q2
      obtain ⟨h3, s3⟩ := pure_back h1 s2 h2
      exact (o.trans s1 h1) _ _ _ _ _ s3 h3 (RU.D (show Rp w2.F z v from r2)) q2
end DL

namespace DL
open PySem L2
/-! ### what is left behind a def -/
def okU (m : Nat) : U → Prop
  | .p n => n < m
  | _ => True
def okOb (m : Nat) : Ob → Prop
  | .lsp us => ∀ u ∈ us, okU m u
  | .tpp us => ∀ u ∈ us, okU m u
  | .dip kvs => ∀ p ∈ kvs, okU m p.2
  | .ins _ fs => ∀ p ∈ fs, okU m p.2
  | _ => True
def FinA (M0 : List Ob) (Qu : U → List Ob → Prop) (u : U) (M' : List Ob) : Prop := ∃ m, M0.length ≤ m ∧ m ≤ M'.length ∧ okU m u ∧ (∀ o ∈ M'.take m, okOb m o) ∧ Qu u (M'.take m)
def rnU (f : Nat → Nat) : U → U
  | .p n => .p (f n)
  | u => u
def rnO (f : Nat → Nat) : Ob → Ob
  | .lsp us => .lsp (us.map (rnU f))
  | .tpp us => .tpp (us.map (rnU f))
  | .dip kvs => .dip (kvs.map fun p => (p.1, rnU f p.2))
  | .ins C fs => .ins C (fs.map fun p => (p.1, rnU f p.2))
  | o => o
def inU (keep : List Nat) : U → Prop
  | .p n => n ∈ keep
  | _ => True
def inOb (keep : List Nat) : Ob → Prop
  | .lsp us => ∀ u ∈ us, inU keep u
  | .tpp us => ∀ u ∈ us, inU keep u
  | .dip kvs => ∀ p ∈ kvs, inU keep p.2
  | .ins _ fs => ∀ p ∈ fs, inU keep p.2
  | _ => True
/-- some cells are kept -/
def FinG (M0 : List Ob) (Qu : U → List Ob → Prop) (u : U) (M' : List Ob) : Prop := ∃ keep r : List Nat, keep = List.range M0.length ++ r ∧ keep.Nodup ∧ (∀ i ∈ keep, i < M'.length) ∧ inU keep u ∧ (∀ i ∈ keep, inOb keep (M'.getD i .dead)) ∧
  Qu (rnU (fun n => keep.idxOf n) u) (keep.map fun i => rnO (fun n => keep.idxOf n) (M'.getD i .dead))
def Fin' (M0 : List Ob) (Qu : U → List Ob → Prop) (u : U) (M' : List Ob) : Prop := FinA M0 Qu u M' ∨ FinG M0 Qu u M'
theorem paired_with {α β : Type} {R S : α → β → Prop} : ∀ {as : List α} {bs : List β}, Paired R as bs → (∀ a b, a ∈ as → R a b → S a b) → Paired S as bs
  | _, _, .nil, _ => .nil
  | _, _, .cons r t, k => .cons (k _ _ List.mem_cons_self r) (paired_with t fun a b h q => k a b (List.mem_cons_of_mem _ h) q)
section
variable {F : Hp} {th th' : List Addr}
theorem RU.cut {m : Nat} {u : U} {v : V} (r : RU ⟨F, th⟩ u v) (k : okU m u) : RU ⟨F, th.take m⟩ u v := by
  cases u with
  | d d => exact r
  | p n =>
    obtain ⟨a, ha, e⟩ := r
    refine ⟨a, ?_, e⟩
    show (th.take m)[n]? = some a
    rw [List.getElem?_take_of_lt k]; exact ha
  | v x => exact r
  | s K ns => exact r
theorem RO.cut {m : Nat} {b : Ob} {o : HO} (r : RO ⟨F, th⟩ b o) (k : okOb m b) : RO ⟨F, th.take m⟩ b o := by
  cases b with
  | lst ds => exact r
  | lsp us => obtain ⟨vs, e, r⟩ := r; exact ⟨vs, e, paired_with r fun a b h q => q.cut (k a h)⟩
  | tpp us => obtain ⟨vs, e, r⟩ := r; exact ⟨vs, e, paired_with r fun a b h q => q.cut (k a h)⟩
  | dic kvs => exact r
  | dip kvs => obtain ⟨vs, e, r⟩ := r; exact ⟨vs, e, paired_with r fun a b h q => ⟨q.1, q.2.cut (k a h)⟩⟩
  | dit kvs => exact r
  | ins C fs => obtain ⟨dx, vs, e, r⟩ := r; exact ⟨dx, vs, e, paired_with r fun a b h q => ⟨q.1, q.2.cut (k a h)⟩⟩
  | lkd _ _ => exact r
  | dead => exact trivial
end
theorem out_finA {w : Wd} {M : List Ob} {H : Hp} {Qu : U → List Ob → Prop} {Q : VK} (h : Hold w M H) (o : Out RU w H Qu Q) : Out RU w H (FinA M Qu) Q := fun u M' v w' H' s h' r ⟨m, hm, hm', ku, ko, q⟩ => by
  obtain ⟨F', th'⟩ := w'
  obtain ⟨t, et, ht⟩ := s.th
  have et' : th' = w.th ++ t := et
  have hl : w.th.length ≤ m := by rw [h.len]; exact hm
  refine o u (M'.take m) v ⟨F', th'.take m⟩ H' ⟨s.F, ⟨t.take (m - w.th.length), ?_, fun a ha => ht a (List.mem_of_mem_take ha)⟩, s.fr, s.own⟩ ?_ (r.cut ku) q
  · show th'.take m = _
    rw [et', List.take_append, List.take_of_length_le hl]
  · refine ⟨?_, ?_, h'.sub, fun n a b e1 e2 => ?_⟩
    · show (th'.take m).length = _
      have e : th'.length = M'.length := h'.len
      rw [List.length_take, List.length_take, e]
    · exact List.Sublist.nodup (List.take_sublist m th') h'.nd
    · have hn : n < m := by
        have := (List.getElem?_eq_some_iff.mp e2).1
        rw [List.length_take] at this
        omega
      have e1' : (th'.take m)[n]? = some a := e1
      rw [List.getElem?_take_of_lt hn] at e1'
      have e2' := e2
      rw [List.getElem?_take_of_lt hn] at e2'
      obtain ⟨ob, e3, e4⟩ := h'.cell n a b e1' e2'
      exact ⟨ob, e3, e4.imp id fun ⟨q1, q2⟩ => ⟨q1, RO.cut (F := F') (th := th') q2 (ko b (List.mem_of_getElem? e2))⟩⟩
theorem idx_get {keep : List Nat} {th : List Addr} {n : Nat} (h : n ∈ keep) : (keep.map fun i => th.getD i 0)[keep.idxOf n]? = some (th.getD n 0) := by
  have hl : keep.idxOf n < keep.length := List.idxOf_lt_length_of_mem h
  rw [List.getElem?_map, List.getElem?_eq_getElem hl, List.getElem_idxOf hl]; rfl
theorem RU.keep {F : Hp} {th : List Addr} {keep : List Nat} {u : U} {v : V} (r : RU ⟨F, th⟩ u v) (k : inU keep u) : RU ⟨F, keep.map fun i => th.getD i 0⟩ (rnU (fun n => keep.idxOf n) u) v := by
  cases u with
  | p n =>
    obtain ⟨a, ha, e⟩ := r
    have ha' : th[n]? = some a := ha
    refine ⟨a, ?_, e⟩
    show (keep.map fun i => th.getD i 0)[keep.idxOf n]? = some a
    rw [idx_get k, List.getD_eq_getElem?_getD, ha']; rfl
  | d d => exact r
  | v x => exact r
  | s K ns => exact r
theorem paired_mapL {α β γ : Type} {R : α → β → Prop} {S : γ → β → Prop} {f : α → γ} : ∀ {as : List α} {bs : List β}, Paired R as bs → (∀ a b, a ∈ as → R a b → S (f a) b) → Paired S (as.map f) bs
  | _, _, .nil, _ => .nil
  | _, _, .cons r t, k => .cons (k _ _ List.mem_cons_self r) (paired_mapL t fun a b h q => k a b (List.mem_cons_of_mem _ h) q)
theorem RO.keep {F : Hp} {th : List Addr} {keep : List Nat} {b : Ob} {o : HO} (r : RO ⟨F, th⟩ b o) (k : inOb keep b) : RO ⟨F, keep.map fun i => th.getD i 0⟩ (rnO (fun n => keep.idxOf n) b) o := by
  cases b with
  | lst ds => exact r
  | lsp us => obtain ⟨vs, e, r⟩ := r; exact ⟨vs, e, paired_mapL r fun a b h q => q.keep (k a h)⟩
  | tpp us => obtain ⟨vs, e, r⟩ := r; exact ⟨vs, e, paired_mapL r fun a b h q => q.keep (k a h)⟩
  | dic kvs => exact r
  | dip kvs => obtain ⟨vs, e, r⟩ := r; exact ⟨vs, e, paired_mapL r fun a b h q => ⟨q.1, q.2.keep (k a h)⟩⟩
  | dit kvs => exact r
  | ins C fs => obtain ⟨dx, vs, e, r⟩ := r; exact ⟨dx, vs, e, paired_mapL r fun a b h q => ⟨q.1, q.2.keep (k a h)⟩⟩
  | lkd _ _ => exact r
  | dead => exact trivial
theorem out_finG {w : Wd} {M : List Ob} {H : Hp} {Qu : U → List Ob → Prop} {Q : VK} (h : Hold w M H) (o : Out RU w H Qu Q) : Out RU w H (FinG M Qu) Q := fun u M' v w' H' s h' r ⟨keep, rr, ek, nd, lt, ku, ko, q⟩ => by
  obtain ⟨F', th'⟩ := w'
  obtain ⟨t, et, ht⟩ := s.th
  have et' : th' = w.th ++ t := et
  have hl' : th'.length = M'.length := h'.len
  have eold : (List.range M.length).map (fun i => th'.getD i 0) = w.th := by
    refine List.ext_getElem? fun i => ?_
    rw [List.getElem?_map]
    by_cases hi : i < M.length
    · have hi' : i < w.th.length := by rw [h.len]; exact hi
      rw [List.getElem?_range hi]
      show some (th'.getD i 0) = _
      rw [et', List.getD_eq_getElem?_getD, List.getElem?_append_left hi', List.getElem?_eq_getElem hi']; rfl
    · rw [List.getElem?_eq_none (by simpa using hi), List.getElem?_eq_none (by rw [h.len]; omega)]; rfl
  have inj : ∀ i ∈ keep, ∀ j ∈ keep, th'.getD i 0 = th'.getD j 0 → i = j := fun i hi j hj e => by
    have li : i < th'.length := by rw [hl']; exact lt i hi
    have lj : j < th'.length := by rw [hl']; exact lt j hj
    have e' : th'[i] = th'[j] := by
      rw [List.getD_eq_getElem?_getD, List.getD_eq_getElem?_getD, List.getElem?_eq_getElem li, List.getElem?_eq_getElem lj] at e
      exact e
    apply Classical.byContradiction
    intro ne
    rcases Nat.lt_or_gt_of_ne ne with q | q
    · exact List.pairwise_iff_getElem.mp (List.nodup_iff_pairwise_ne.mp h'.nd) i j li lj q e'
    · exact List.pairwise_iff_getElem.mp (List.nodup_iff_pairwise_ne.mp h'.nd) j i lj li q e'.symm
  refine o _ (keep.map fun i => rnO (fun n => keep.idxOf n) (M'.getD i .dead)) v ⟨F', keep.map fun i => th'.getD i 0⟩ H' ⟨s.F, ⟨rr.map fun i => th'.getD i 0, ?_, fun a ha => ?_⟩, s.fr, s.own⟩ ?_ (r.keep ku) q
  · show keep.map _ = _
    rw [ek, List.map_append, eold]
  · obtain ⟨i, hi, rfl⟩ := List.mem_map.mp ha
    have hik : i ∈ keep := by rw [ek]; exact List.mem_append_right _ hi
    have hge : M.length ≤ i := by
      have n2 := nd
      rw [ek] at n2
      apply Classical.byContradiction
      intro hlt
      exact (List.nodup_append.mp n2).2.2 i (List.mem_range.mpr (by omega)) i hi rfl
    have li : i < th'.length := by rw [hl']; exact lt i hik
    apply ht
    rw [List.getD_eq_getElem?_getD, et', List.getElem?_append_right (by rw [h.len]; exact hge)]
    have l2 : i - w.th.length < t.length := by rw [et', List.length_append] at li; rw [h.len] at li ⊢; omega
    rw [List.getElem?_eq_getElem l2]
    exact List.getElem_mem l2
  · refine ⟨?_, ?_, h'.sub, fun n a b e1 e2 => ?_⟩
    · show (keep.map _).length = (keep.map _).length
      rw [List.length_map, List.length_map]
    · show (keep.map _).Nodup
      refine List.pairwise_map.mpr (List.Pairwise.imp_of_mem (fun {i j} hi hj ne e => ne (inj i hi j hj e)) nd)
    · have e1' : (keep.map fun i => th'.getD i 0)[n]? = some a := e1
      rw [List.getElem?_map] at e1' e2
      cases ei : keep[n]? with
      | none => rw [ei] at e1'; cases e1'
      | some i =>
        rw [ei] at e1' e2
        have hik : i ∈ keep := List.mem_of_getElem? ei
        have li : i < th'.length := by rw [hl']; exact lt i hik
        have lm : i < M'.length := lt i hik
        have ea : th'[i]? = some a := by
          have z : th'.getD i 0 = a := Option.some.inj e1'
          rw [List.getD_eq_getElem?_getD, List.getElem?_eq_getElem li] at z
          rw [List.getElem?_eq_getElem li]; exact congrArg some z
        have eb : rnO (fun n => keep.idxOf n) (M'.getD i .dead) = b := Option.some.inj e2
        have hM : M'[i]? = some (M'.getD i .dead) := by rw [List.getD_eq_getElem?_getD, List.getElem?_eq_getElem lm]; rfl
        obtain ⟨ob, e3, e4⟩ := h'.cell i a _ ea hM
        refine ⟨ob, e3, ?_⟩
        rcases e4 with e4 | ⟨e4, e5⟩
        · left; rw [← eb, e4]; rfl
        · right; rw [← eb]; exact ⟨e4, RO.keep (F := F') (th := th') e5 (ko i hik)⟩
theorem out_fin {w : Wd} {M : List Ob} {H : Hp} {Qu : U → List Ob → Prop} {Q : VK} (h : Hold w M H) (o : Out RU w H Qu Q) : Out RU w H (Fin' M Qu) Q := fun u M' v w' H' s h' r q =>
  q.elim (out_finA h o u M' v w' H' s h' r) (out_finG h o u M' v w' H' s h' r)
def startR (n : Nat) (us : List U) : Rho := us.map some ++ List.replicate (n - us.length) none
theorem env_start {w : Wd} {N : List Str} {us : List U} {vs : List V} (r : RUs w us vs) : Env w (L2.start N vs) (startR N.length us) := by
  have hl := Paired.length r
  refine ⟨by simp [L2.start, startR, hl], fun i u h => ?_⟩
  unfold startR at h
  by_cases hi : i < us.length
  · rw [List.getElem?_append_left (by simpa using hi), List.getElem?_map] at h
    have get : ∀ {us : List U} {vs : List V}, RUs w us vs → ∀ {j : Nat} {d : U}, us[j]? = some d → ∃ v, vs[j]? = some v ∧ RU w d v := by
      intro us vs r
      induction r with
      | nil => intro j d h; simp at h
      | cons h1 _ ih =>
        intro j d h
        cases j with
        | zero => simp at h; subst h; exact ⟨_, rfl, h1⟩
        | succ j => simpa using ih (by simpa using h)
    cases e : us[i]? with
    | none => rw [e] at h; cases h
    | some u' =>
      rw [e] at h
      have h' := Option.some.inj (Option.some.inj h)
      subst h'
      obtain ⟨v, h1, h2⟩ := get r e
      refine ⟨v, ?_, h2⟩
      unfold L2.start
      rw [List.getElem?_append_left (by rw [List.length_map, ← hl]; exact hi), List.getElem?_map, h1]; rfl
  · rw [List.getElem?_append_right (by simpa using hi)] at h
    have := List.mem_of_getElem? h
    rw [List.mem_replicate] at this
    cases this.2
/-- the body of a def -/
theorem body_ok {d : DSp} {N : List Str} {ts : TS} {ws : WS} {vs : List V} {H : Hp} {Q : VK} {E : XK} (hs : LS ts ws) (hd : ∀ us M Qu, d us M Qu → ws { nx := fun _ M' => Fin' M Qu (.d .none) M', rt := Fin' M Qu } (startR N.length us) M)
    (h : liftSp d vs H Q E) : ts { nx := fun _ H' => Q .non H', rt := Q } (L2.start N vs) H := by
  obtain ⟨w, M, us, Qu, hw, r, q, o⟩ := h
  have o' := out_fin hw o
  exact hs hw (env_start r) (hd us M Qu q) ⟨fun ρ' M' σ' w' H' s h' _ q' => o' _ _ _ _ _ s h' (RU.D .non) q', o', fun _ _ _ _ _ _ _ _ q => q.elim, fun _ _ _ _ _ _ _ _ q => q.elim⟩
theorem lift_len {d : DSp} {n : Nat} (h : ∀ us M Qu, d us M Qu → us.length = n) : ∀ vs H Q E, liftSp d vs H Q E → vs.length = n := by
  rintro vs H Q E ⟨w, M, us, Qu, _, r, q, _⟩
  rw [← Paired.length r]; exact h _ _ _ q
/-! ### a call that is handed cells -/
def wback : List Ob → List Nat → List Ob → List Ob
  | M, [], [] => M
  | M, [], m :: Mc => M ++ (m :: Mc)
  | M, i :: is, m :: Mc => wback (M.set i m) is Mc
  | M, _ :: _, [] => M
theorem wback_nil (M : List Ob) : ∀ Mc, wback M [] Mc = M ++ Mc
  | [] => by simp [wback]
  | _ :: _ => rfl
theorem wback_len : ∀ (is : List Nat) (M Mc : List Ob), is.length ≤ Mc.length → (wback M is Mc).length = M.length + (Mc.length - is.length)
  | [], M, Mc, _ => by rw [wback_nil]; simp
  | i :: is, M, [], h => by simp at h
  | i :: is, M, m :: Mc, h => by
    show (wback (M.set i m) is Mc).length = _
    rw [wback_len is _ _ (by simpa using h)]; simp
theorem wback_out : ∀ (is : List Nat) (M Mc : List Ob) (j : Nat), is.length ≤ Mc.length → j < M.length → j ∉ is → (wback M is Mc)[j]? = M[j]?
  | [], M, Mc, j, _, hj, _ => by rw [wback_nil, List.getElem?_append_left hj]
  | i :: is, M, [], j, h, _, _ => by simp at h
  | i :: is, M, m :: Mc, j, h, hj, hn => by
    show (wback (M.set i m) is Mc)[j]? = _
    rw [wback_out is _ _ j (by simpa using h) (by simpa using hj) fun q => hn (List.mem_cons_of_mem _ q), List.getElem?_set_ne fun q => hn (by rw [q]; exact List.mem_cons_self)]
theorem wback_in : ∀ (is : List Nat) (M Mc : List Ob) (k j : Nat), is.length ≤ Mc.length → j < M.length → is.Nodup → is[k]? = some j → (wback M is Mc)[j]? = Mc[k]?
  | [], _, _, k, j, _, _, _, e => by simp at e
  | i :: is, M, [], _, j, h, _, _, _ => by simp at h
  | i :: is, M, m :: Mc, k, j, h, hj, nd, e => by
    show (wback (M.set i m) is Mc)[j]? = _
    rw [List.nodup_cons] at nd
    cases k with
    | zero =>
      simp at e; subst e
      rw [wback_out is _ _ i (by simpa using h) (by simpa using hj) nd.1, List.getElem?_set_self hj]; rfl
    | succ k => rw [wback_in is _ _ k j (by simpa using h) (by simpa using hj) nd.2 (by simpa using e)]; rfl
theorem wback_new : ∀ (is : List Nat) (M Mc : List Ob) (j : Nat), is.length ≤ Mc.length → M.length ≤ j → (wback M is Mc)[j]? = Mc[is.length + (j - M.length)]?
  | [], M, Mc, j, _, hj => by rw [wback_nil, List.getElem?_append_right hj]; simp
  | i :: is, M, [], j, h, _ => by simp at h
  | i :: is, M, m :: Mc, j, h, hj => by
    show (wback (M.set i m) is Mc)[j]? = _
    rw [wback_new is _ _ j (by simpa using h) (by simpa using hj), List.length_set]
    have e : (i :: is).length + (j - M.length) = (is.length + (j - M.length)) + 1 := by simp; omega
    rw [e]; rfl
/-- the caller's number of the callee's cell -/
def outN (is : List Nat) (l k : Nat) : Nat := if k < is.length then is.getD k 0 else l + (k - is.length)
def inN (is : List Nat) (n : Nat) : Nat := is.idxOf n
theorem th_get {is : List Nat} {th : List Addr} {k : Nat} (h : ∀ i ∈ is, i < th.length) (hk : k < is.length) : (is.map fun i => th.getD i 0)[k]? = th[is.getD k 0]? := by
  have e : is.getD k 0 = is[k] := by simp [List.getD, List.getElem?_eq_getElem hk]
  have hl := h is[k] (List.getElem_mem hk)
  rw [List.getElem?_map, List.getElem?_eq_getElem hk, e, List.getElem?_eq_getElem hl]
  simp [List.getD, List.getElem?_eq_getElem hl]
/-- into the callee -/
theorem RU.into {F : Hp} {is : List Nat} {th : List Addr} (h : ∀ i ∈ is, i < th.length) {u : U} {v : V} (r : RU ⟨F, th⟩ (rnU (outN is th.length) u) v) : RU ⟨F, is.map fun i => th.getD i 0⟩ u v := by
  cases u with
  | d d => exact r
  | v x => exact r
  | s K ns => exact r
  | p k =>
    obtain ⟨a, ha, e⟩ := r
    refine ⟨a, ?_, e⟩
    have ha' : th[outN is th.length k]? = some a := ha
    by_cases hk : k < is.length
    · show (is.map fun i => th.getD i 0)[k]? = some a
      rw [th_get h hk]
      unfold outN at ha'
      rw [if_pos hk] at ha'; exact ha'
    · exfalso
      unfold outN at ha'
      rw [if_neg hk] at ha'
      have := (List.getElem?_eq_some_iff.mp ha').1
      omega
/-- back to the caller -/
theorem RU.back {F : Hp} {is : List Nat} {th t : List Addr} (h : ∀ i ∈ is, i < th.length) {u : U} {v : V} (r : RU ⟨F, (is.map fun i => th.getD i 0) ++ t⟩ u v) : RU ⟨F, th ++ t⟩ (rnU (outN is th.length) u) v := by
  cases u with
  | d d => exact r
  | v x => exact r
  | s K ns => exact r
  | p k =>
    obtain ⟨a, ha, e⟩ := r
    refine ⟨a, ?_, e⟩
    have ha' : ((is.map fun i => th.getD i 0) ++ t)[k]? = some a := ha
    show (th ++ t)[outN is th.length k]? = some a
    unfold outN
    by_cases hk : k < is.length
    · rw [if_pos hk]
      rw [List.getElem?_append_left (by simpa using hk), th_get h hk] at ha'
      exact th_mono ha'
    · rw [if_neg hk, List.getElem?_append_right (by omega)]
      rw [List.getElem?_append_right (by simpa using hk)] at ha'
      simpa using ha'
theorem mapP2 {α β γ : Type} {R : β → γ → Prop} {S : α → γ → Prop} {f : α → β} : ∀ {as : List α} {cs : List γ}, Paired R (as.map f) cs → (∀ a c, R (f a) c → S a c) → Paired S as cs
  | [], _, .nil, _ => .nil
  | _ :: _, _, .cons r t, k => .cons (k _ _ r) (mapP2 t k)
theorem mapP3 {α β γ : Type} {R : α → γ → Prop} {S : β → γ → Prop} {f : α → β} : ∀ {as : List α} {cs : List γ}, Paired R as cs → (∀ a c, R a c → S (f a) c) → Paired S (as.map f) cs
  | _, _, .nil, _ => .nil
  | _, _, .cons r t, k => .cons (k _ _ r) (mapP3 t k)
theorem RO.into {F : Hp} {is : List Nat} {th : List Addr} (h : ∀ i ∈ is, i < th.length) {m : Ob} {o : HO} (r : RO ⟨F, th⟩ (rnO (outN is th.length) m) o) : RO ⟨F, is.map fun i => th.getD i 0⟩ m o := by
  cases m with
  | lst ds => exact r
  | lsp us => obtain ⟨vs, e, r⟩ := r; exact ⟨vs, e, mapP2 r fun a c q => RU.into h q⟩
  | tpp us => obtain ⟨vs, e, r⟩ := r; exact ⟨vs, e, mapP2 r fun a c q => RU.into h q⟩
  | dic kvs => exact r
  | dip kvs => obtain ⟨vs, e, r⟩ := r; exact ⟨vs, e, mapP2 r fun a c q => ⟨q.1, RU.into h q.2⟩⟩
  | dit kvs => exact r
  | ins C fs => obtain ⟨dx, vs, e, r⟩ := r; exact ⟨dx, vs, e, mapP2 r fun a c q => ⟨q.1, RU.into h q.2⟩⟩
  | lkd _ _ => exact r
  | dead => exact trivial
theorem RO.back {F : Hp} {is : List Nat} {th t : List Addr} (h : ∀ i ∈ is, i < th.length) {m : Ob} {o : HO} (r : RO ⟨F, (is.map fun i => th.getD i 0) ++ t⟩ m o) : RO ⟨F, th ++ t⟩ (rnO (outN is th.length) m) o := by
  cases m with
  | lst ds => exact r
  | lsp us => obtain ⟨vs, e, r⟩ := r; exact ⟨vs, e, mapP3 r fun a c q => RU.back h q⟩
  | tpp us => obtain ⟨vs, e, r⟩ := r; exact ⟨vs, e, mapP3 r fun a c q => RU.back h q⟩
  | dic kvs => exact r
  | dip kvs => obtain ⟨vs, e, r⟩ := r; exact ⟨vs, e, mapP3 r fun a c q => ⟨q.1, RU.back h q.2⟩⟩
  | dit kvs => exact r
  | ins C fs => obtain ⟨dx, vs, e, r⟩ := r; exact ⟨dx, vs, e, mapP3 r fun a c q => ⟨q.1, RU.back h q.2⟩⟩
  | lkd _ _ => exact r
  | dead => exact trivial
end DL

namespace DL
open PySem L2
theorem call_into {w : Wd} {M : List Ob} {H : Hp} {is : List Nat} {cs : List Ob} (h : Hold w M H) (nd : is.Nodup) (hi : ∀ i ∈ is, i < M.length) (hc : cs.map (rnO (outN is M.length)) = is.map fun i => M.getD i .dead) :
    Hold ⟨w.F, is.map fun i => w.th.getD i 0⟩ cs H := by
  have hl : ∀ i ∈ is, i < w.th.length := fun i m => by rw [h.len]; exact hi i m
  have hcl : cs.length = is.length := by have := congrArg List.length hc; simpa using this
  have thk : ∀ {k : Nat} {a : Addr}, (is.map fun i => w.th.getD i 0)[k]? = some a → ∃ i, is[k]? = some i ∧ w.th[i]? = some a := fun {k a} e => by
    have hk : k < is.length := by simpa using (List.getElem?_eq_some_iff.mp e).1
    rw [th_get hl hk] at e
    have e2 : is.getD k 0 = is[k] := by simp [List.getD, List.getElem?_eq_getElem hk]
    exact ⟨is[k], List.getElem?_eq_getElem hk, by rw [← e2]; exact e⟩
  refine ⟨by show (is.map fun i => w.th.getD i 0).length = _; simp [hcl], ?_, h.sub, fun k a m e1 e2 => ?_⟩
  · show (is.map fun i => w.th.getD i 0).Nodup
    unfold List.Nodup
    rw [List.pairwise_iff_getElem]
    intro i j hil hjl hij e
    have ha := List.getElem?_eq_getElem hil
    have hb := List.getElem?_eq_getElem hjl
    rw [← e] at hb
    obtain ⟨x, hx1, hx2⟩ := thk ha
    obtain ⟨y, hy1, hy2⟩ := thk hb
    have hxy : x = y := by
      obtain ⟨l1, q1⟩ := List.getElem?_eq_some_iff.mp hx2
      obtain ⟨l2, q2⟩ := List.getElem?_eq_some_iff.mp hy2
      exact (List.getElem_inj h.nd).mp (q1.trans q2.symm)
    subst hxy
    obtain ⟨l1, q1⟩ := List.getElem?_eq_some_iff.mp hx1
    obtain ⟨l2, q2⟩ := List.getElem?_eq_some_iff.mp hy1
    have := (List.getElem_inj nd).mp (q1.trans q2.symm)
    omega
  · obtain ⟨i, hi1, hi2⟩ := thk e1
    have him := hi i (List.mem_of_getElem? hi1)
    have em : (cs.map (rnO (outN is M.length)))[k]? = some (M.getD i .dead) := by rw [hc, List.getElem?_map, hi1]; rfl
    rw [List.getElem?_map, e2] at em
    have em' : rnO (outN is M.length) m = M.getD i .dead := Option.some.inj em
    have eM : M[i]? = some (rnO (outN is M.length) m) := by
      rw [em', List.getElem?_eq_getElem him]
      simp [List.getD, List.getElem?_eq_getElem him]
    obtain ⟨o, e3, e4⟩ := h.cell i a _ hi2 eM
    refine ⟨o, e3, ?_⟩
    rcases e4 with e4 | ⟨q1, q2⟩
    · left
      cases m <;> first | rfl | (cases e4)
    · refine .inr ⟨q1, RO.into hl ?_⟩
      rw [h.len]; exact q2
theorem call_back {w w2 : Wd} {M Mc : List Ob} {H H2 : Hp} {is : List Nat} (h : Hold w M H) (nd : is.Nodup) (hi : ∀ i ∈ is, i < M.length) (s : Step ⟨w.F, is.map fun i => w.th.getD i 0⟩ H w2 H2) (h2 : Hold w2 Mc H2) :
    ∃ t, w2 = ⟨w2.F, (is.map fun i => w.th.getD i 0) ++ t⟩ ∧ Hold ⟨w2.F, w.th ++ t⟩ (wback M is (Mc.map (rnO (outN is M.length)))) H2 ∧ Step w H ⟨w2.F, w.th ++ t⟩ H2 := by
  have hl : ∀ i ∈ is, i < w.th.length := fun i m => by rw [h.len]; exact hi i m
  obtain ⟨t, et, ht⟩ := s.th
  obtain ⟨F2, th2⟩ := w2
  have et' : th2 = (is.map fun i => w.th.getD i 0) ++ t := et
  subst et'
  have hlen : is.length + t.length = Mc.length := by have := h2.len; simpa using this
  have hml : is.length ≤ (Mc.map (rnO (outN is M.length))).length := by rw [List.length_map]; omega
  -- where the callee's addresses stand
  have inth : ∀ {a : Addr}, a ∈ (is.map fun i => w.th.getD i 0) → ∃ k i, is[k]? = some i ∧ w.th[i]? = some a ∧ (is.map fun i => w.th.getD i 0)[k]? = some a := fun {a} m => by
    obtain ⟨k, hk⟩ := List.mem_iff_getElem?.mp m
    have hk' : k < is.length := by simpa using (List.getElem?_eq_some_iff.mp hk).1
    have e := hk
    rw [th_get hl hk'] at e
    have e2 : is.getD k 0 = is[k] := by simp [List.getD, List.getElem?_eq_getElem hk']
    exact ⟨k, is[k], List.getElem?_eq_getElem hk', by rw [← e2]; exact e, hk⟩
  have sub : ∀ {a : Addr}, a ∈ (is.map fun i => w.th.getD i 0) → a ∈ w.th := fun m => by
    obtain ⟨_, _, _, e, _⟩ := inth m
    exact List.mem_of_getElem? e
  refine ⟨t, rfl, ⟨?_, ?_, h2.sub, fun j a m e1 e2 => ?_⟩, ⟨s.F, ⟨t, rfl, ht⟩, fun a o e n => s.fr a o e fun m => n (sub m), fun a o e1 e2 => ?_⟩⟩
  · show (w.th ++ t).length = _
    rw [wback_len _ _ _ hml, List.length_append, List.length_map, h.len]; omega
  · show (w.th ++ t).Nodup
    have nd2 : ((is.map fun i => w.th.getD i 0) ++ t).Nodup := h2.nd
    refine List.nodup_append.mpr ⟨h.nd, (List.nodup_append.mp nd2).2.1, fun a ha b hb e => ?_⟩
    subst e
    obtain ⟨o, q⟩ := h.live ha
    rw [ht a hb] at q; cases q
  · by_cases hj : j < w.th.length
    · have e1' : w.th[j]? = some a := by
        have e1' : (w.th ++ t)[j]? = some a := e1
        rwa [List.getElem?_append_left hj] at e1'
      have hjM : j < M.length := by rw [← h.len]; exact hj
      by_cases hm : j ∈ is
      · obtain ⟨k, hk⟩ := List.mem_iff_getElem?.mp hm
        rw [wback_in is M _ k j hml hjM nd hk, List.getElem?_map] at e2
        cases q : Mc[k]? with
        | none => rw [q] at e2; cases e2
        | some m' =>
          rw [q] at e2
          have e2' : rnO (outN is M.length) m' = m := Option.some.inj e2
          have hk' := (List.getElem?_eq_some_iff.mp hk).1
          have e3 : ((is.map fun i => w.th.getD i 0) ++ t)[k]? = some a := by
            rw [List.getElem?_append_left (by simpa using hk'), th_get hl hk']
            have e4 : is.getD k 0 = j := by rw [List.getD, hk]; rfl
            rw [e4]; exact e1'
          obtain ⟨o, e5, e6⟩ := h2.cell k a m' e3 q
          refine ⟨o, e5, ?_⟩
          rcases e6 with e6 | ⟨q1, q2⟩
          · left; subst e6; rw [← e2']; rfl
          · refine .inr ⟨q1, ?_⟩
            rw [← e2', ← h.len]
            exact RO.back hl q2
      · rw [wback_out is M _ j hml hjM hm] at e2
        obtain ⟨o, e5, e6⟩ := h.cell j a m e1' e2
        have hna : a ∉ (is.map fun i => w.th.getD i 0) := fun q => by
          obtain ⟨k, i, hk, hia, _⟩ := inth q
          have hij : i = j := by
            obtain ⟨l1, q1⟩ := List.getElem?_eq_some_iff.mp hia
            obtain ⟨l2, q2⟩ := List.getElem?_eq_some_iff.mp e1'
            exact (List.getElem_inj h.nd).mp (q1.trans q2.symm)
          exact hm (by rw [← hij]; exact List.mem_of_getElem? hk)
        refine ⟨o, s.fr a o e5 hna, ?_⟩
        rcases e6 with e6 | ⟨q1, q2⟩
        · exact .inl e6
        · refine .inr ⟨?_, RO.grow (w := w) (w' := ⟨F2, w.th ++ t⟩) ⟨s.F, fun n b q => th_mono q⟩ q2⟩
          show F2 a = none
          cases q : F2 a with
          | none => rfl
          | some o' =>
            rcases s.own a o' q1 q with z | z
            · rw [e5] at z; cases z
            · exact absurd z hna
    · have hj' : w.th.length ≤ j := by omega
      have e1' : (w.th ++ t)[j]? = some a := e1
      rw [List.getElem?_append_right hj'] at e1'
      rw [wback_new is M _ j hml (by rw [← h.len]; exact hj'), List.getElem?_map] at e2
      cases q : Mc[is.length + (j - M.length)]? with
      | none => rw [q] at e2; cases e2
      | some m' =>
        rw [q] at e2
        have e2' : rnO (outN is M.length) m' = m := Option.some.inj e2
        have e3 : ((is.map fun i => w.th.getD i 0) ++ t)[is.length + (j - M.length)]? = some a := by
          rw [List.getElem?_append_right (by simp), ← h.len]
          simpa using e1'
        obtain ⟨o, e5, e6⟩ := h2.cell _ a m' e3 q
        refine ⟨o, e5, ?_⟩
        rcases e6 with e6 | ⟨q1, q2⟩
        · left; subst e6; rw [← e2']; rfl
        · refine .inr ⟨q1, ?_⟩
          rw [← e2', ← h.len]
          exact RO.back hl q2
  · rcases s.own a o e1 e2 with z | z
    · exact .inl z
    · exact .inr (sub z)
def allB (is : List Nat) (l : Nat) : Bool := match is with
  | [] => true
  | i :: is => Nat.ble (i + 1) l && allB is l
def outB (i : Nat) : List Nat → Bool
  | [] => true
  | j :: is => !Nat.beq i j && outB i is
def nodB : List Nat → Bool
  | [] => true
  | i :: is => outB i is && nodB is
theorem allB_ok : ∀ {is : List Nat} {l : Nat}, allB is l = true → ∀ i ∈ is, i < l
  | [], _, _, _, h => nomatch h
  | j :: is, l, h, i, hi => by
    have h' : (Nat.ble (j + 1) l && allB is l) = true := h
    rw [Bool.and_eq_true] at h'
    rcases List.mem_cons.mp hi with q | q
    · subst q; exact Nat.le_of_ble_eq_true h'.1
    · exact allB_ok h'.2 i q
theorem outB_ok {i : Nat} : ∀ {is : List Nat}, outB i is = true → i ∉ is
  | [], _, h => nomatch h
  | j :: is, h, hi => by
    have h' : (!Nat.beq i j && outB i is) = true := h
    rw [Bool.and_eq_true] at h'
    rcases List.mem_cons.mp hi with q | q
    · subst q
      have := h'.1
      simp at this
    · exact outB_ok h'.2 q
theorem nodB_ok : ∀ {is : List Nat}, nodB is = true → is.Nodup
  | [], _ => .nil
  | i :: is, h => by
    have h' : (outB i is && nodB is) = true := h
    rw [Bool.and_eq_true] at h'
    exact List.nodup_cons.mpr ⟨outB_ok h'.1, nodB_ok h'.2⟩
/-- a call that is handed the cells is -/
def wCallC (is : List Nat) (d : DSp) (dv : List PyData) (wr : WA) : WE := fun ρ M Q => wr ρ M fun us M1 => nodB is = true ∧ allB is M1.length = true ∧ (us.map (rnU (inN is))).map (rnU (outN is M1.length)) = us ∧
  (is.map fun i => rnO (inN is) (M1.getD i .dead)).map (rnO (outN is M1.length)) = (is.map fun i => M1.getD i .dead) ∧
  d (us.map (rnU (inN is)) ++ dv.map U.d) (is.map fun i => rnO (inN is) (M1.getD i .dead)) fun u Mc => Q (rnU (outN is M1.length) u) (wback M1 is (Mc.map (rnO (outN is M1.length))))
theorem rus_app {w : Wd} : ∀ {as bs : List U} {xs ys : List V}, RUs w as xs → RUs w bs ys → RUs w (as ++ bs) (xs ++ ys)
  | _, _, _, _, .nil, b => b
  | _, _, _, _, .cons h t, b => .cons h (rus_app t b)
theorem le_callC {is : List Nat} {d : DSp} {dvs : List V} {dv : List PyData} {E : XK} {tr : TA} {wr : WA} (hd : ∀ w : Wd, RUs w (dv.map U.d) dvs) (hr : LA tr wr) : LE (tCall (liftSp d) dvs E tr) (wCallC is d dv wr) := fun _ _ _ _ _ _ _ h e hq o =>
  hr h e hq fun us M1 vs w1 H1 s1 h1 r1 q1 => by
    obtain ⟨nd', hi', hu, hc, q⟩ := q1
    have nd := nodB_ok nd'
    have hi := allB_ok hi'
    have hl : ∀ i ∈ is, i < w1.th.length := fun i m => by rw [h1.len]; exact hi i m
    refine ⟨_, _, _, _, call_into h1 nd hi hc, ?_, q, fun u Mc v w2 H2 s2 h2 r2 q2 => ?_⟩
    · refine rus_app ?_ (hd _)
      rw [← hu] at r1
      exact mapP2 r1 fun a c r => by
        rw [← h1.len] at r
        exact RU.into hl r
    · obtain ⟨t, ew, h3, s3⟩ := call_back h1 nd hi s2 h2
      refine (o.trans s1 h1) _ _ _ _ _ s3 h3 ?_ q2
      rw [ew] at r2
      rw [← h1.len]
      exact RU.back hl r2
/-! ### a cell becomes data: said ahead of a statement, or of a value -/
/-- slot i's cell -/
def wFrz (i : Nat) (ws : WS) : WS := fun De ρ M => ∃ n ds, ρ[i]? = some (some (.p n)) ∧ M[n]? = some (.lst ds) ∧ ws De (ρ.set i (some (.d (.list ds)))) (M.set n .dead)
theorem Env.frz {w : Wd} {σ : L2.St} {ρ : Rho} {u : U} {v : V} {i : Nat} (e : Env w σ ρ) (hv : σ[i]? = some (some v)) (r : RU w u v) : Env w σ (ρ.set i (some u)) := by
  refine ⟨by rw [List.length_set]; exact e.len, fun j x h => ?_⟩
  by_cases hj : j = i
  · subst hj
    have hl : j < ρ.length := by
      have := (List.getElem?_eq_some_iff.mp h).1
      rw [List.length_set] at this; exact this
    rw [List.getElem?_set_self hl] at h
    cases h
    exact ⟨v, hv, r⟩
  · rw [List.getElem?_set_ne (fun q => hj q.symm)] at h
    exact e.at_ j x h
theorem frz_step {w : Wd} {M : List Ob} {H : Hp} {n : Nat} {v : V} {ds : List PyData} (h : Hold w M H) (r : RU w (.p n) v) (hm : M[n]? = some (.lst ds)) : ∃ w', Step w H w' H ∧ Hold w' (M.set n .dead) H ∧ RU w' (.d (.list ds)) v := by
  obtain ⟨a, o, rfl, ha, ho, vs, rfl, r1⟩ := cell_at h r hm (fun q => nomatch q)
  have h0 : Ob.lst ds ≠ .dead := fun q => nomatch q
  have hF : w.F a = none := by
    obtain ⟨_, _, e⟩ := h.cell n a _ ha hm
    rcases e with e | ⟨e, _⟩
    · cases e
    · exact e
  exact ⟨w.put a (.lst vs), Step.frz h ha hm h0, h.frz ha hm h0 ho, RU.D (.lst Wd.putF (r1.mono (same_put hF)))⟩
theorem ls_frz {i : Nat} {ts : TS} {ws : WS} (hs : LS ts ws) : LS ts (wFrz i ws) := fun _ _ _ _ _ _ _ h e hq o => by
  obtain ⟨n, ds, h1, h2, q⟩ := hq
  obtain ⟨v, hv, r⟩ := e.at_ _ _ h1
  obtain ⟨w', s, h', r'⟩ := frz_step h r h2
  exact hs h' ((e.grow s.grow).frz hv r') q (o.trans s h')
/-- the value's cell becomes data -/
def wFz (we : WE) : WE := fun ρ M Q => we ρ M fun x M1 => ∃ n ds, x = .p n ∧ M1[n]? = some (.lst ds) ∧ Q (.d (.list ds)) (M1.set n .dead)
theorem le_fz {te : TE} {we : WE} (he : LE te we) : LE te (wFz we) := fun _ _ _ _ _ _ _ h e hq o =>
  he h e hq fun x M1 v w1 H1 s1 h1 r1 q1 => by
    obtain ⟨n, ds, rfl, hm, q⟩ := q1
    obtain ⟨w', s, h', r'⟩ := frz_step h1 r1 hm
    exact o _ _ _ _ _ (s1.trans h1 s) h' r' q
/-! ### x op= e of a name -/
def LIp (t : TIp) (wr : R2') : Prop := LR t wr
def wAug (i : Nat) (we : WE) (wr : R2') : WS := fun De ρ M => ∃ x, ρ[i]? = some (some x) ∧ we ρ M fun y M1 => wr x y M1 fun z M2 => De.nx (ρ.set i (some z)) M2
theorem ls_aug {i : Nat} {te : TE} {we : WE} {t : TIp} {wr : R2'} (he : LE te we) (hr : LR t wr) : LS (tAug i te t) (wAug i we wr) := fun _ _ _ _ _ _ _ h e hq o => by
  obtain ⟨x, hx, q⟩ := hq
  obtain ⟨v, hv, r⟩ := e.at_ _ _ hx
  exact ⟨v, hv, he h e q fun y M1 vy w1 H1 s1 h1 r1 q1 => hr h1 (r.grow s1.grow) r1 q1 fun z M2 vz w2 H2 s2 h2 r2 q2 => o.nx _ _ _ _ _ (s1.trans h1 s2) h2 ((e.grow (s1.trans h1 s2).grow).set r2 i) q2⟩
/-- list += list, in place -/
def wExtIp : R2' := fun x y M Q => ∃ n ds es, x = .p n ∧ M[n]? = some (.lst ds) ∧ view M y = some (.list es) ∧ ds.length + es.length ≤ sizeLine ∧ Q (.p n) (M.set n (.lst (ds ++ es)))
theorem lr_ext : LR rExt2 wExtIp := fun w M H x y vx vy Qu Q h rx ry hq o => by
  obtain ⟨n, ds, es, rfl, hm, hv, hl, q⟩ := hq
  obtain ⟨a, ob, rfl, ha, ho, ws, rfl, r1⟩ := cell_at h rx hm (fun q => nomatch q)
  obtain ⟨p, zs, rfl, hp, r2⟩ := view_ok h ry hv
  exact ⟨a, p, ws, zs, rfl, rfl, ho, hp, by rw [← r1.length, ← r2.length]; exact hl, set_out h ha hm (fun q => nomatch q) (RO.L (r1.append r2)) (RU.P ha) q o⟩
/-! ### x[i] = v of a list -/
def wSetL : U → U → U → List Ob → (List Ob → Prop) → Prop := fun x y z M Q => ∃ n ds i j d, x = .p n ∧ view M y = some (.int i) ∧ z = .d d ∧ M[n]? = some (.lst ds) ∧ ixN ds.length i = some j ∧ Q (M.set n (.lst (ds.set j d)))
def wgSub (wo wi : WE) (ws : U → U → U → List Ob → (List Ob → Prop) → Prop) : WG := fun u ρ M Q => wo ρ M fun x M1 => wi ρ M1 fun y M2 => ws x y u M2 fun M3 => Q ρ M3
def LSet (t : TSet) (ws : U → U → U → List Ob → (List Ob → Prop) → Prop) : Prop := ∀ ⦃w : Wd⦄ ⦃M : List Ob⦄ ⦃H : Hp⦄ ⦃x y z : U⦄ ⦃vx vy vz : V⦄ ⦃Qu : List Ob → Prop⦄ ⦃Q : Hp → Prop⦄, Hold w M H → RU w x vx → RU w y vy → RU w z vz → ws x y z M Qu →
  (∀ M' w' H', Step w H w' H' → Hold w' M' H' → Qu M' → Q H') → t vx vy vz H Q
theorem lg_sub {to ti : TE} {t : TSet} {wo wi : WE} {ws : U → U → U → List Ob → (List Ob → Prop) → Prop} (ho : LE to wo) (hi : LE ti wi) (hs : LSet t ws) : LG (gSub to ti t) (wgSub wo wi ws) := fun _ _ _ _ _ _ _ _ _ h e r hq o =>
  ho h e hq fun x M1 vx w1 H1 s1 h1 r1 q1 => hi h1 (e.grow s1.grow) q1 fun y M2 vy w2 H2 s2 h2 r2 q2 =>
    hs h2 (r1.grow s2.grow) r2 (r.grow (s1.trans h1 s2).grow) q2 fun M3 w3 H3 s3 h3 q3 => o _ _ _ _ _ ((s1.trans h1 s2).trans h2 s3) h3 (e.grow ((s1.trans h1 s2).trans h2 s3).grow) q3
theorem lset_list : LSet rSetL wSetL := fun w M H x y z vx vy vz Qu Q h rx ry rz hq o => by
  obtain ⟨n, ds, i, j, d, rfl, hv, rfl, hm, hj, q⟩ := hq
  obtain ⟨a, ob, rfl, ha, ho, ws, rfl, r1⟩ := cell_at h rx hm (fun q => nomatch q)
  refine ⟨a, ws, i, j, rfl, vw_int (view_ok h ry hv), ho, by rw [← r1.length]; exact hj, o _ _ _ (Step.set ha) (h.set ha hm (fun q => nomatch q) (RO.L (r1.set rz j))) q⟩
end DL

namespace DL
open PySem L2
theorem hu64 {A : Around} {k : Nat} (hr : Room k A) : A.units + 64 < cLine := by have := hr.un; omega
theorem hu65 {A : Around} {k : Nat} (hr : Room k A) : A.units + 65 < cLine := by have := hr.un; omega
/-! ### the script -/
def wLenS (K : PySem.W.Frag) : List U → List Ob → (U → List Ob → Prop) → Prop := fun us M Q => ∃ ns, us = [.s K ns] ∧ Q (.d (.int ns.length)) M
theorem lc_lenS {K : PySem.W.Frag} : LC (rLen K) (wLenS K) := fun w M H x vx Qu Q h rx hq o => by
  obtain ⟨ns, rfl, q⟩ := hq
  obtain ⟨v, rfl, r⟩ := rus1 rx
  obtain ⟨a, rfl, hs⟩ := r
  exact ⟨_, ns.length, rfl, .inl ⟨_, h.sub.seq hs, by simp⟩, o.here h (RU.D (.int _)) q⟩
def wIxS (K : PySem.W.Frag) : R2' := fun x y M Q => ∃ ns i z, x = .s K ns ∧ view M y = some (.int i) ∧ atI ns i = some z ∧ Q (.d (.int z)) M
theorem lr_ixS {K : PySem.W.Frag} : LR (rIx K) (wIxS K) := fun w M H x y vx vy Qu Q h rx ry hq o => by
  obtain ⟨ns, i, z, rfl, ei, hx, q⟩ := hq
  have vi := vw_int (view_ok h ry ei)
  obtain ⟨a, rfl, hs⟩ := rx
  refine .inl ⟨a, _, i, .int z, rfl, vi, h.sub.seq hs, ?_, o.here h (RU.D (.int _)) q⟩
  unfold atI at hx ⊢
  rw [List.length_map]
  cases e : ixN ns.length i with
  | none => rw [e] at hx; cases hx
  | some j =>
    rw [e] at hx
    have hx' : ns[j]? = some z := hx
    show (ns.map V.int)[j]? = some (V.int z)
    rw [List.getElem?_map, hx']; rfl
/-! ### - x -/
def wNeg : U → List Ob → (U → List Ob → Prop) → Prop := fun x M Q => ∃ i, view M x = some (.int i) ∧ Q (.d (.int (-i))) M
theorem lu_neg : LU (rU fun i => .int (-i)) wNeg := fun w M H x vx Qu Q h rx hq o => by
  obtain ⟨i, e, q⟩ := hq
  exact ⟨i, vw_int (view_ok h rx e), o.here h (RU.D (.int _)) q⟩
/-! ### truth -/
def truU (M : List Ob) (u : U) : Option (Bool × Prop) := match view M u with
  | some .none => some (false, True)
  | some (.bool b) => some (b, True)
  | some (.int i) => some (i != 0, True)
  | some (.str y) => some ((y.length : Int) != 0, y.length ≤ sizeLine)
  | some (.list ds) => some (!ds.isEmpty, True)
  | some (.tuple ds) => some (!ds.isEmpty, True)
  | _ => none
def wTru (we : WE) : WT := fun ρ M Q => we ρ M fun x M1 => ∃ b C, truU M1 x = some (b, C) ∧ C ∧ Q b M1
theorem lt_tru {K : PySem.W.Frag} {te : TE} {we : WE} (he : LE te we) : LT (fun σ H Q => te σ H fun x H' => ∃ k, TruV K x H' k ∧ Q k H') (wTru we) := fun _ _ _ _ _ _ _ h e hq o =>
  he h e hq fun x M1 v w1 H1 s1 h1 r1 q1 => by
    obtain ⟨b, C, et, hC, q⟩ := q1
    have fin := (o.trans s1 h1).here h1 (R := RB) rfl q
    unfold truU at et
    split at et
    · rename_i hv; cases et; rw [vw_none (view_ok h1 r1 hv)]; exact ⟨_, rfl, fin⟩
    · rename_i hv; cases et; rw [vw_bool (view_ok h1 r1 hv)]; exact ⟨_, rfl, fin⟩
    · rename_i hv; cases et; rw [vw_int (view_ok h1 r1 hv)]; exact ⟨_, rfl, fin⟩
    · rename_i hv; cases et; rw [vw_str (view_ok h1 r1 hv)]; exact ⟨_, ⟨hC, rfl⟩, fin⟩
    · rename_i ds hv
      cases et
      obtain ⟨p, vs, rfl, hp, r⟩ := view_ok h1 r1 hv
      exact ⟨_, .inl ⟨vs, SqL.of hp, by cases r <;> rfl⟩, fin⟩
    · rename_i ds hv
      cases et
      obtain ⟨p, vs, rfl, hp, r, _⟩ := vw_tup h1.sub (view_ok h1 r1 hv)
      exact ⟨_, .inr (.inl ⟨vs, SqT.of hp, by cases r <;> rfl⟩), fin⟩
    · cases et
/-! ### list(range(n)) -/
def rgD (n : Int) : List PyData := (List.range n.toNat).map fun i => PyData.int ((i : Nat) : Int)
theorem rg_rep {F : Hp} (j : Int) : RpL F (rgD j) (rgV 0 j) := by
  have e : rgV 0 j = (List.range j.toNat).map fun i => V.int ((i : Nat) : Int) := by unfold rgV; simp
  rw [e]
  have key : ∀ l : List Nat, RpL F (l.map fun i => PyData.int ((i : Nat) : Int)) (l.map fun i => V.int ((i : Nat) : Int)) := by
    intro l
    induction l with
    | nil => exact .nil
    | cons i l ih => exact .cons (.int _) ih
  exact key _
def wListRg (we : WE) : WE := fun ρ M Q => we ρ M fun x M1 => ∃ j, view M1 x = some (.int j) ∧ RgOk 0 j ∧ Q (.d (.list (rgD j))) M1
def wListRgC (we : WE) : WE := fun ρ M Q => we ρ M fun x M1 => ∃ j, view M1 x = some (.int j) ∧ RgOk 0 j ∧ Q (.p M1.length) (M1 ++ [.lst (rgD j)])
theorem le_listRange {te : TE} {we : WE} (he : LE te we) : LE (tLstRg (tRg1 te)) (wListRg we) := fun _ _ _ _ _ _ _ h e hq o =>
  he h e hq fun x M1 v w1 H1 s1 h1 r1 q1 => by
    obtain ⟨j, hv, hj, q⟩ := q1
    refine ⟨j, vw_int (view_ok h1 r1 hv), hj, fun p hp => ?_⟩
    exact (o.trans s1 h1) _ _ _ _ _ (Step.put h1 hp) (h1.put hp) (RU.D (.lst Wd.putF (rg_rep j))) q
theorem le_listRangeC {te : TE} {we : WE} (he : LE te we) : LE (tLstRg (tRg1 te)) (wListRgC we) := fun _ _ _ _ _ _ _ h e hq o =>
  he h e hq fun x M1 v w1 H1 s1 h1 r1 q1 => by
    obtain ⟨j, hv, hj, q⟩ := q1
    refine ⟨j, vw_int (view_ok h1 r1 hv), hj, fun p hp => ?_⟩
    exact (o.trans s1 h1) _ _ _ _ _ (Step.cell h1 hp) (h1.cell' hp (RO.L (rg_rep j))) (RU.P (Wd.cell_at h1)) q
/-! ### a, b = x, y -/
def wPar (i j : Nat) (wr : WA) : WS := fun De ρ M => wr ρ M fun us M1 => ∃ u t, us = [u, t] ∧ De.nx ((ρ.set i (some u)).set j (some t)) M1
theorem ls_par {i j : Nat} {tr : TA} {wr : WA} (hr : LA tr wr) : LS (tPar i j tr) (wPar i j wr) := fun _ _ _ _ _ _ _ h e hq o =>
  hr h e hq fun us M1 vs w1 H1 s1 h1 r1 q1 => by
    obtain ⟨u, t, rfl, q⟩ := q1
    obtain ⟨v, x, rfl, r, r'⟩ := rus2 r1
    exact ⟨v, x, rfl, o.nx _ _ _ _ _ s1 h1 (((e.grow s1.grow).set r i).set r' j) q⟩
def wPar3 (i j l : Nat) (wr : WA) : WS := fun De ρ M => wr ρ M fun us M1 => ∃ u t y, us = [u, t, y] ∧ De.nx (((ρ.set i (some u)).set j (some t)).set l (some y)) M1
theorem ls_par3 {i j l : Nat} {tr : TA} {wr : WA} (hr : LA tr wr) : LS (tPar3 i j l tr) (wPar3 i j l wr) := fun _ _ _ _ _ _ _ h e hq o =>
  hr h e hq fun us M1 vs w1 H1 s1 h1 r1 q1 => by
    obtain ⟨u, t, y, rfl, q⟩ := q1
    cases r1 with
    | cons r rr =>
      obtain ⟨v, x, rfl, r', r''⟩ := rus2 rr
      exact ⟨_, v, x, rfl, o.nx _ _ _ _ _ s1 h1 ((((e.grow s1.grow).set r i).set r' j).set r'' l) q⟩
/-! ### join of texts -/
def texts : List PyData → Option (List Str)
  | [] => some []
  | .str b :: ds => match texts ds with
    | some bs => some (b :: bs)
    | none => none
  | _ :: _ => none
theorem texts_ok {F : Hp} : ∀ {ds : List PyData} {vs : List V} {bs : List Str}, RpL F ds vs → texts ds = some bs → vs = bs.map V.str
  | _, _, _, .nil, e => by cases e; rfl
  | .str b :: ds, _, bs, .cons r t, e => by
    have e' : (match texts ds with | some bs => some (b :: bs) | none => none) = some bs := e
    cases q : texts ds with
    | none => rw [q] at e'; cases e'
    | some cs =>
      rw [q] at e'; cases e'
      cases r
      rw [texts_ok t q]; rfl
  | .none :: _, _, _, .cons _ _, e => by cases e
  | .int _ :: _, _, _, .cons _ _, e => by cases e
  | .bool _ :: _, _, _, .cons _ _, e => by cases e
  | .list _ :: _, _, _, .cons _ _, e => by cases e
  | .tuple _ :: _, _, _, .cons _ _, e => by cases e
  | .dict _ :: _, _, _, .cons _ _, e => by cases e
theorem texts_map : ∀ bs : List Str, texts (bs.map PyData.str) = some bs
  | [] => rfl
  | b :: bs => by
    show (match texts (bs.map PyData.str) with | some bs => some (b :: bs) | none => none) = _
    rw [texts_map bs]
def rJoin (K : PySem.W.Frag) : V → List V → Hp → VK → Prop := fun x xs H Q => ∃ a p, ∃ ys : List Str, x = .str a ∧ xs = [.ref p] ∧ (SqL K H p (ys.map V.str) ∨ SqT K H p (ys.map V.str)) ∧ (ys.map (·.length)).sum + ys.length * a.length ≤ 16777216 ∧ Q (.str (Txt.join a ys)) H
theorem mt_joinD {X : Cx} : MtR X "str.join" (rJoin X.K) := mt_join
def wJoin : WM := fun x ys M Q => ∃ a u ds bs, x = .d (.str a) ∧ ys = [u] ∧ itemsD M u = some ds ∧ texts ds = some bs ∧ (bs.map (·.length)).sum + bs.length * a.length ≤ 16777216 ∧ Q (.d (.str (Txt.join a bs))) M
theorem lm_join {K : PySem.W.Frag} : LM (rJoin K) wJoin := fun w M H x vx ys vs Qu Q h rx rs hq o => by
  obtain ⟨a, u, ds, bs, rfl, rfl, hv, ht, hl, q⟩ := hq
  obtain ⟨v, rfl, r⟩ := rus1 rs
  cases (show Rp w.F _ vx from rx)
  obtain ⟨p, vs, rfl, hs, r1⟩ := items_ok (K := K) h r hv
  have e := texts_ok r1 ht
  subst e
  exact ⟨a, p, bs, rfl, rfl, hs, hl, o.here h (RU.D (.str _)) q⟩
/-! ### new cells are left behind: at an expression, at a statement -/
def wTr (we : WE) : WE := fun ρ M Q => we ρ M (Fin' M Q)
theorem le_tr {te : TE} {we : WE} (he : LE te we) : LE te (wTr we) := fun _ _ _ _ _ _ _ h e hq o => he h e hq (out_fin h o)
def dropP (m : Nat) : Option U → Option U
  | some (.p n) => if n < m then some (.p n) else none
  | x => x
def Trim (M0 : List Ob) (Q : Rho → List Ob → Prop) (ρ : Rho) (M : List Ob) : Prop := M0.length ≤ M.length ∧ (∀ o ∈ M.take M0.length, okOb M0.length o) ∧ Q (ρ.map (dropP M0.length)) (M.take M0.length)
theorem trim_ok {w : Wd} {M : List Ob} {H : Hp} {Qu : Rho → List Ob → Prop} {Q : L2.St → Hp → Prop} (h : Hold w M H) (o : OutN w H Qu Q) : OutN w H (Trim M Qu) Q := fun ρ M' σ w' H' s h' e ⟨hm', ko, q⟩ => by
  obtain ⟨F', th'⟩ := w'
  obtain ⟨t, et, ht⟩ := s.th
  have et' : th' = w.th ++ t := et
  refine o _ (M'.take M.length) σ ⟨F', th'.take M.length⟩ H' ⟨s.F, ⟨[], ?_, by simp⟩, s.fr, s.own⟩ ?_ ?_ q
  · show th'.take M.length = _
    rw [et', ← h.len, List.take_append_of_le_length (Nat.le_refl _), List.take_length, List.append_nil]
  · refine ⟨?_, ?_, h'.sub, fun n a b e1 e2 => ?_⟩
    · show (th'.take M.length).length = _
      have e : th'.length = M'.length := h'.len
      rw [List.length_take, List.length_take, e]
    · exact List.Sublist.nodup (List.take_sublist M.length th') h'.nd
    · have hn : n < M.length := by
        have := (List.getElem?_eq_some_iff.mp e2).1
        rw [List.length_take] at this
        omega
      have e1' : (th'.take M.length)[n]? = some a := e1
      rw [List.getElem?_take_of_lt hn] at e1'
      have e2' := e2
      rw [List.getElem?_take_of_lt hn] at e2'
      obtain ⟨ob, e3, e4⟩ := h'.cell n a b e1' e2'
      exact ⟨ob, e3, e4.imp id fun ⟨q1, q2⟩ => ⟨q1, RO.cut (F := F') (th := th') q2 (ko b (List.mem_of_getElem? e2))⟩⟩
  · refine ⟨by rw [List.length_map]; exact e.len, fun i u hu => ?_⟩
    rw [List.getElem?_map] at hu
    cases er : ρ[i]? with
    | none => rw [er] at hu; cases hu
    | some x =>
      rw [er] at hu
      have hu' : dropP M.length x = some u := Option.some.inj hu
      cases x with
      | none => cases hu'
      | some x =>
        have hx : x = u ∧ okU M.length u := by
          cases x with
          | p n =>
            have hu2 : (if n < M.length then some (U.p n) else none) = some u := hu'
            by_cases hn : n < M.length
            · rw [if_pos hn] at hu2; cases hu2; exact ⟨rfl, hn⟩
            · rw [if_neg hn] at hu2; cases hu2
          | d d => cases hu'; exact ⟨rfl, trivial⟩
          | v d => cases hu'; exact ⟨rfl, trivial⟩
          | s K ns => cases hu'; exact ⟨rfl, trivial⟩
        obtain ⟨rfl, ku⟩ := hx
        obtain ⟨v, h1, h2⟩ := e.at_ i x er
        exact ⟨v, h1, RU.cut (F := F') (th := th') h2 ku⟩
def wTrS (ws : WS) : WS := fun De ρ M => ws ⟨Trim M De.nx, De.rt, Trim M De.bk, Trim M De.ct, De.ex⟩ ρ M
theorem ls_tr {ts : TS} {ws : WS} (hs : LS ts ws) : LS ts (wTrS ws) := fun _ _ _ _ _ _ _ h e hq o => hs h e hq ⟨trim_ok h o.nx, o.rt, trim_ok h o.bk, trim_ok h o.ct⟩
/-! ### the law -/
def spLaw (K : PySem.W.Frag) : DSp := fun us M Q => ∃ ns : List Int, us = [.s K ns] ∧ M = [] ∧ ns.length ≤ 63 ∧ Q (.d (.bool true)) []
theorem law_start {K : PySem.W.Frag} {H : Hp} {a : Addr} {ns : List Int} (hl : ns.length ≤ 63) (hS : SqL K H a (ns.map V.int)) {E : XK} : liftSp (spLaw K) [.ref a] H (fun v _ => v = .bl true) E := by
  refine ⟨⟨H, []⟩, [], [.s K ns], fun u _ => u = .d (.bool true), ⟨rfl, .nil, Same.refl _, fun n a m e => by simp at e⟩, .cons ⟨a, rfl, hS⟩ .nil, ⟨ns, rfl, rfl, hl, rfl⟩, fun u M' v w' H' _ _ r q => ?_⟩
  subst q
  cases (show Rp w'.F _ v from r)
  rfl
end DL

namespace DL
open PySem L2
theorem bt_abs : bootBuiltins "abs" = some (.builtin "abs") := by decide +kernel
theorem bt_len : bootBuiltins "len" = some (.builtin "len") := by decide +kernel
theorem bt_max : bootBuiltins "max" = some (.builtin "max") := by decide +kernel
theorem bt_min : bootBuiltins "min" = some (.builtin "min") := by decide +kernel
theorem bt_int : bootBuiltins "int" = some (.type "int") := by decide +kernel
theorem bt_list : bootBuiltins "list" = some (.type "list") := by decide +kernel
theorem bt_tuple : bootBuiltins "tuple" = some (.type "tuple") := by decide +kernel
theorem bt_isinstance : bootBuiltins "isinstance" = some (.builtin "isinstance") := by decide +kernel
theorem bt_all : bootBuiltins "all" = some (.builtin "all") := by decide +kernel
theorem bt_any : bootBuiltins "any" = some (.builtin "any") := by decide +kernel
theorem bt_str : bootBuiltins "str" = some (.type "str") := by decide +kernel
theorem bt_sorted : bootBuiltins "sorted" = some (.builtin "sorted") := by decide +kernel
theorem bt_sum : bootBuiltins "sum" = some (.builtin "sum") := by decide +kernel
theorem bt_set : bootBuiltins "set" = some (.type "set") := by decide +kernel
theorem bt_dict : bootBuiltins "dict" = some (.type "dict") := by decide +kernel
theorem bt_bool : bootBuiltins "bool" = some (.type "bool") := by decide +kernel
theorem bt_repr : bootBuiltins "repr" = some (.builtin "repr") := by decide +kernel
theorem def_ok {X : Cx} {body : List Stmt} {d : DSp} {N : List Str} {ts : TS} {ws : WS} {vs : List V} {H : Hp} {Q : VK} {E : XK} (hs : LS ts ws) (hp : PSs X body ts) (h : liftSp d vs H Q E)
    (hd : ∀ us M Qu, d us M Qu → ws { nx := fun _ M' => Fin' M Qu (.d .none) M', rt := Fin' M Qu } (startR N.length us) M) : ∃ t, PSs X body t ∧ t { nx := fun _ H' => Q .non H', rt := Q } (L2.start N vs) H :=
  ⟨ts, hp, body_ok hs hd h⟩
/-- isinstance against built-in classes -/
inductive Cl where | bool | int | str | list | tuple
def Cl.name : Cl → String
  | .bool => "bool" | .int => "int" | .str => "str" | .list => "list" | .tuple => "tuple"
def isD : Cl → PyData → Bool
  | .bool, .bool _ => true
  | .int, .bool _ => true
  | .int, .int _ => true
  | .str, .str _ => true
  | .list, .list _ => true
  | .tuple, .tuple _ => true
  | _, _ => false
def noDict : PyData → Bool
  | .dict _ => false
  | _ => true
theorem kit_one {K : PySem.W.Frag} (c : Cl) (d : PyData) (h : noDict d = true) : ∃ n, kindD d = some n ∧ PySem.W.kitOne K (.type n) (.type c.name) = some (isD c d) := by
  cases d with
  | dict kvs => cases h
  | _ => exact ⟨_, rfl, by cases c <;> first | exact kit_ty (r := true) (by decide +kernel) | exact kit_ty (r := false) (by decide +kernel)⟩
def wIsiC (c : Cl) (we : WE) : WE := fun ρ M Q => we ρ M fun x M1 => ∃ d, view M1 x = some d ∧ noDict d = true ∧ Q (.d (.bool (isD c d))) M1
theorem le_isiC {K : PySem.W.Frag} (c : Cl) {te : TE} {we : WE} (he : LE te we) : LE (tCB (rIsi K) (tCons te (tCons (tC (.ty c.name)) tNil))) (wIsiC c we) := fun _ _ _ _ _ _ _ h e hq o =>
  he h e hq fun x M1 v w1 H1 s1 h1 r1 q1 => by
    obtain ⟨d, hv, hd, q⟩ := q1
    obtain ⟨n, hk, hb⟩ := kit_one (K := K) c d hd
    exact ⟨v, .ty c.name, .type n, .type c.name, _, rfl, .ty _, kind_ok h1.sub (view_ok h1 r1 hv) hk, hb, (o.trans s1 h1).here h1 (RU.D (.bl _)) q⟩
def wIsiT (c1 c2 : Cl) (we : WE) : WE := fun ρ M Q => we ρ M fun x M1 => ∃ d, view M1 x = some d ∧ noDict d = true ∧ Q (.d (.bool (isD c1 d || isD c2 d))) M1
theorem kit_two {K : PySem.W.Frag} {t : Value} {c1 c2 : Value} {a b : Bool} (h1 : PySem.W.kitOne K t c1 = some a) (h2 : PySem.W.kitOne K t c2 = some b) : PySem.W.kitAny K t [c1, c2] = some (a || b) := by
  refine kitAny_cons h1 (fun ha => kitAny_cons h2 (fun hb => ?_) fun hb => ?_) fun ha => ?_
  · subst ha hb; exact kitAny_nil
  · subst ha hb; rfl
  · subst ha; rfl
theorem le_isiT {K : PySem.W.Frag} (c1 c2 : Cl) {te : TE} {we : WE} (he : LE te we) : LE (tCB (rIsiT K) (tCons te (tCons (tTup (tCons (tC (.ty c1.name)) (tCons (tC (.ty c2.name)) tNil))) tNil))) (wIsiT c1 c2 we) := fun _ _ _ _ _ _ _ h e hq o =>
  he h e hq fun x M1 v w1 H1 s1 h1 r1 q1 => by
    obtain ⟨d, hv, hd, q⟩ := q1
    obtain ⟨n, hk, hb⟩ := kit_one (K := K) c1 d hd
    obtain ⟨n2, hk2, hb2⟩ := kit_one (K := K) c2 d hd
    rw [hk] at hk2; cases hk2
    refine ⟨(by show 2 ≤ sizeLine; decide), fun p hp => ?_⟩
    have hw := view_ok h1 r1 hv
    have sm : Same H1 (upd H1 p (.tup [.ty c1.name, .ty c2.name])) := same_put hp
    have e2 : Same w1.F (upd H1 p (.tup [.ty c1.name, .ty c2.name])) := h1.sub.trans sm
    have hd' : Vw w1.F (upd H1 p (.tup [.ty c1.name, .ty c2.name])) d v := by
      cases d with
      | list ds =>
        obtain ⟨a, vs, rfl, ha, r⟩ := hw
        exact ⟨a, vs, rfl, sm _ _ ha, r⟩
      | _ => exact hw
    refine ⟨v, p, [.ty c1.name, .ty c2.name], .type n, [.type c1.name, .type c2.name], _, rfl, upd_same, .cons (.ty _) (.cons (.ty _) .nil), kind_ok e2 hd' hk, kit_two hb hb2, ?_⟩
    exact (o.trans s1 h1) _ _ _ _ _ ((Step.refl w1 H1).prv hp) (h1.prv (h1.newF hp) (h1.off hp)) (RU.D (.bl _)) q
theorem fin_d {M0 M' : List Ob} {Qu : U → List Ob → Prop} {z : PyData} (hl : M0.length ≤ M'.length) (ho : ∀ o ∈ M'.take M0.length, okOb M0.length o) (q : Qu (.d z) (M'.take M0.length)) : Fin' M0 Qu (.d z) M' := .inl ⟨M0.length, Nat.le_refl _, hl, trivial, ho, q⟩
theorem fin_d0 {M' : List Ob} {Qu : U → List Ob → Prop} {z : PyData} (q : Qu (.d z) []) : Fin' [] Qu (.d z) M' := .inl ⟨0, Nat.le_refl _, Nat.zero_le _, trivial, by simp, by simpa using q⟩
/-- a word between a statement and the rest -/
def wCut (wt wu : WS) : WS := fun De ρ M => ∃ Mid : Rho → List Ob → Prop, wt { De with nx := Mid } ρ M ∧ ∀ ρ' M', Mid ρ' M' → wu De ρ' M'
theorem ls_cut {t u : TS} {wt wu : WS} (ht : LS t wt) (hu : LS u wu) : LS (tSeq t u) (wCut wt wu) := fun _ _ _ _ _ _ _ h e hq o => by
  obtain ⟨Mid, q1, q2⟩ := hq
  exact ht h e q1 ⟨fun _ _ _ _ _ s1 h1 e1 m => hu h1 e1 (q2 _ _ m) (o.trans s1 h1), o.rt, o.bk, o.ct⟩
/-- a test whose answer is open -/
theorem wite {b : Bool} {A B : Prop} (h1 : b = true → A) (h2 : b = false → B) : if b = true then A else B := by
  cases b with
  | true => rw [if_pos rfl]; exact h1 rfl
  | false => rw [if_neg (by decide)]; exact h2 rfl
theorem wiT {A B : Prop} (h : A) : if true = true then A else B := by rw [if_pos rfl]; exact h
theorem wiF {A B : Prop} (h : B) : if false = true then A else B := by rw [if_neg (by decide)]; exact h
theorem witeD {p : Prop} [Decidable p] {A B : Prop} (h1 : p → A) (h2 : ¬ p → B) : if decide p = true then A else B := wite (fun e => h1 (of_decide_eq_true e)) fun e => h2 (of_decide_eq_false e)
theorem eqv_s (x y : Str) : PyData.eqv (.str x) (.str y) = decide (x = y) := by simp only [PyData.eqv]; rw [Bool.eq_iff_iff, decide_eq_true_iff, beq_iff_eq]
theorem eqv_i (x y : Int) : PyData.eqv (.int x) (.int y) = decide (x = y) := by simp only [PyData.eqv]; rw [Bool.eq_iff_iff, decide_eq_true_iff, beq_iff_eq]
theorem wseq {x y : Str} {A B : Prop} (h1 : x = y → A) (h2 : x ≠ y → B) : if PyData.eqv (.str x) (.str y) = true then A else B := by rw [eqv_s]; exact witeD h1 h2
theorem wsne {x y : Str} {A B : Prop} (h1 : x ≠ y → A) (h2 : x = y → B) : if (!PyData.eqv (.str x) (.str y)) = true then A else B := by
  rw [eqv_s]; exact wite (fun e => h1 (by simpa using e)) fun e => h2 (by simpa using e)
theorem wieq {x y : Int} {A B : Prop} (h1 : x = y → A) (h2 : x ≠ y → B) : if PyData.eqv (.int x) (.int y) = true then A else B := by rw [eqv_i]; exact witeD h1 h2
theorem wine {x y : Int} {A B : Prop} (h1 : x ≠ y → A) (h2 : x = y → B) : if (!PyData.eqv (.int x) (.int y)) = true then A else B := by
  rw [eqv_i]; exact wite (fun e => h1 (by simpa using e)) fun e => h2 (by simpa using e)
/-! ### the rules, the written part said apart -/
section
variable {X : Cx} {K : PySem.W.Frag}
theorem x_add (h : X.K = K) : OpR X (binaryOp .Add) (rAddAll K) := h ▸ op_addAll
theorem x_eq (h : X.K = K) (hu : X.A.units + 64 < cLine) : OpR X (compareOp .Eq) (rEqAll K) := h ▸ op_eqAll hu
theorem x_ne (h : X.K = K) (hu : X.A.units + 64 < cLine) : OpR X (compareOp .NotEq) (rNeAll K) := h ▸ op_neAll hu
theorem x_in (h : X.K = K) (hu : X.A.units + 65 < cLine) : OpR X (compareOp .In) (rInAll K) := h ▸ op_inAll hu
theorem x_notIn (h : X.K = K) (hu : X.A.units + 65 < cLine) : OpR X (compareOp .NotIn) (rNotInAll K) := h ▸ op_notInAll hu
theorem x_ix (h : X.K = K) : IxR X (rIx K) := h ▸ ix_all
theorem x_sl (h : X.K = K) : SlR X (rSlAll K) := h ▸ sl_all
theorem x_len (h : X.K = K) : CallR X (.builtin "len") (rLen K) := h ▸ call_lenAll
theorem x_listOf (h : X.K = K) : CallR X (.type "list") (rListOf K) := h ▸ call_listOf
theorem x_tupOf (h : X.K = K) : CallR X (.type "tuple") (rTupOf K) := h ▸ call_tupOf
theorem x_all (h : X.K = K) (hc : X.calm = true) : CallR X (.builtin "all") (rAll K) := h ▸ cr_all hc
theorem x_any (h : X.K = K) (hc : X.calm = true) : CallR X (.builtin "any") (rAny K) := h ▸ cr_any hc
theorem x_isi (h : X.K = K) : CallR X (.builtin "isinstance") (rIsi K) := h ▸ call_isi
theorem x_isiT (h : X.K = K) : CallR X (.builtin "isinstance") (rIsiT K) := h ▸ call_isiT
theorem x_count (h : X.K = K) : MtR X "list.count" (rCntI K) := h ▸ mt_lcount
theorem x_join (h : X.K = K) : MtR X "str.join" (rJoin K) := h ▸ mt_joinD
end
end DL

namespace DL
open PySem L2
/-! ### dicts whose keys are ints and texts -/
abbrev KRel (F : Hp) : List (Key × PyData) → List (Key × V) → Prop := Paired (fun (p : Key × PyData) (q : Key × V) => p.1 = q.1 ∧ Rp F p.2 q.2)
def keyD : PyData → Option Key
  | .int i => some (.inl i)
  | .str x => some (.inr x)
  | _ => none
theorem keyD_ok {F H : Hp} {d : PyData} {v : V} {k : Key} (r : Vw F H d v) (e : keyD d = some k) : v = kV k := by
  cases d with
  | int i => cases (show Rp F _ v from r); cases e; rfl
  | str x => cases (show Rp F _ v from r); cases e; rfl
  | _ => cases e
def valD (kvs : List (Key × PyData)) (k : Key) : Option PyData := (kvs.find? fun kv => decide (kv.1 = k)).map (·.2)
theorem valD_ok {F : Hp} {kvs : List (Key × PyData)} {ks : List (Key × V)} (r : KRel F kvs ks) (k : Key) : (valD kvs k = none ∧ valV ks k = none) ∨ ∃ d v, valD kvs k = some d ∧ valV ks k = some v ∧ Rp F d v := by
  induction r with
  | nil => exact .inl ⟨rfl, rfl⟩
  | @cons p q ps qs h t ih =>
    obtain ⟨h1, h2⟩ := h
    by_cases e : p.1 = k
    · exact .inr ⟨p.2, q.2, by simp [valD, List.find?_cons, e], valV_pos (by rw [← h1]; exact e), h2⟩
    · have e' : ¬ q.1 = k := by rw [← h1]; exact e
      rw [valV_neg e', show valD (p :: ps) k = valD ps k by simp [valD, List.find?_cons, e]]
      exact ih
def putD (kvs : List (Key × PyData)) (k : Key) (v : PyData) : List (Key × PyData) :=
  if (kvs.any fun kv => decide (kv.1 = k)) = true then kvs.map (fun kv => if kv.1 = k then (kv.1, v) else kv) else kvs ++ [(k, v)]
theorem any_rel {F : Hp} {kvs : List (Key × PyData)} {ks : List (Key × V)} (r : KRel F kvs ks) (k : Key) : (kvs.any fun kv => decide (kv.1 = k)) = (ks.any fun kv => decide (kv.1 = k)) := by
  induction r with
  | nil => rfl
  | cons h t ih => rw [List.any_cons, List.any_cons, ih, h.1]
theorem putD_ok {F : Hp} {kvs : List (Key × PyData)} {ks : List (Key × V)} (r : KRel F kvs ks) {d : PyData} {v : V} (h : Rp F d v) (k : Key) : KRel F (putD kvs k d) (putK ks k v) := by
  unfold putD putK
  rw [any_rel r k]
  split
  · rename_i hh
    clear hh
    induction r with
    | nil => exact .nil
    | @cons p q ps qs h1 t ih =>
      rw [List.map_cons, List.map_cons]
      refine .cons ?_ ih
      rw [← h1.1]
      split
      · exact ⟨rfl, h⟩
      · exact ⟨h1.1.symm ▸ rfl, h1.2⟩
  · exact Paired.snoc r ⟨rfl, h⟩
theorem RO.Dic {w : Wd} {kvs : List (Key × PyData)} {ks : List (Key × V)} (h : KRel w.F kvs ks) : RO w (.dic kvs) (.dK ks) := ⟨ks, rfl, h⟩
/-- d[y] -/
def wDGet (we wy : WE) : WE := fun ρ M Q => we ρ M fun x M1 => wy ρ M1 fun y M2 => ∃ n kvs e k d, x = .p n ∧ M2[n]? = some (.dic kvs) ∧ view M2 y = some e ∧ keyD e = some k ∧ valD kvs k = some d ∧ Q (.d d) M2
theorem le_dget {te ty : TE} {we wy : WE} (he : LE te we) (hy : LE ty wy) : LE (tDGet te ty) (wDGet we wy) := fun _ _ _ _ _ _ _ h e hq o =>
  he h e hq fun x M1 v w1 H1 s1 h1 r1 q1 => hy h1 (e.grow s1.grow) q1 fun y M2 v2 w2 H2 s2 h2 r2 q2 => by
    obtain ⟨n, kvs, ey, k, d, rfl, hm, hv, hk, hd, q⟩ := q2
    obtain ⟨a, ob, rfl, ha, ho, ks, rfl, r⟩ := cell_at h2 (r1.grow s2.grow) hm (fun q => nomatch q)
    have ek := keyD_ok (view_ok h2 r2 hv) hk
    subst ek
    rcases valD_ok r k with ⟨z, _⟩ | ⟨d', v', z1, z2, z3⟩
    · rw [hd] at z; cases z
    · rw [hd] at z1; cases z1
      refine ⟨a, v', rfl, ?_, ((o.trans s1 h1).trans s2 h2).here h2 (RU.D z3) q⟩
      rw [← z2]; exact DGet.k ho
/-- d.get(y, z) -/
def wDGet2 (we wy wz : WE) : WE := fun ρ M Q => we ρ M fun x M1 => ∃ n kvs1, x = .p n ∧ M1[n]? = some (.dic kvs1) ∧ wy ρ M1 fun y M2 => wz ρ M2 fun z M3 => ∃ kvs e k, M3[n]? = some (.dic kvs) ∧ view M3 y = some e ∧ keyD e = some k ∧
  (∀ d, valD kvs k = some d → Q (.d d) M3) ∧ (valD kvs k = none → Q z M3)
theorem le_dget2 {te ty tz : TE} {we wy wz : WE} (he : LE te we) (hy : LE ty wy) (hz : LE tz wz) : LE (tDGet2 te ty tz) (wDGet2 we wy wz) := fun _ _ _ _ _ _ _ h e hq o =>
  he h e hq fun x M1 v w1 H1 s1 h1 r1 q1 => by
    obtain ⟨n, kvs1, rfl, hm1, q1⟩ := q1
    obtain ⟨a, ob, rfl, ha, ho, ks, rfl, r⟩ := cell_at h1 r1 hm1 (fun q => nomatch q)
    refine ⟨a, rfl, .inl ⟨ks, .inl ho⟩, hy h1 (e.grow s1.grow) q1 fun y M2 v2 w2 H2 s2 h2 r2 q2 => hz h2 ((e.grow s1.grow).grow s2.grow) q2 fun z M3 v3 w3 H3 s3 h3 r3 q3 => ?_⟩
    obtain ⟨kvs, ey, k, hm, hv, hk, qs, qn⟩ := q3
    obtain ⟨a', ob, ea, ha, ho, ks, rfl, r⟩ := cell_at h3 ((r1.grow s2.grow).grow s3.grow) hm (fun q => nomatch q)
    cases ea
    have ek := keyD_ok (view_ok h3 (r2.grow s3.grow) hv) hk
    subst ek
    have o3 := ((o.trans s1 h1).trans s2 h2).trans s3 h3
    rcases valD_ok r k with ⟨z1, z2⟩ | ⟨d', v', z1, z2, z3⟩
    · exact ⟨none, by rw [← z2]; exact DGet.k ho, o3.here h3 r3 (qn z1)⟩
    · exact ⟨some v', by rw [← z2]; exact DGet.k ho, o3.here h3 (RU.D z3) (qs _ z1)⟩
/-- y in d -/
def wDIn (wy we : WE) : WE := fun ρ M Q => wy ρ M fun y M1 => we ρ M1 fun x M2 => ∃ n kvs e k, x = .p n ∧ M2[n]? = some (.dic kvs) ∧ view M2 y = some e ∧ keyD e = some k ∧ Q (.d (.bool (valD kvs k).isSome)) M2
def wDNotIn (wy we : WE) : WE := fun ρ M Q => wy ρ M fun y M1 => we ρ M1 fun x M2 => ∃ n kvs e k, x = .p n ∧ M2[n]? = some (.dic kvs) ∧ view M2 y = some e ∧ keyD e = some k ∧ Q (.d (.bool (!(valD kvs k).isSome))) M2
theorem isSome_rel {F : Hp} {kvs : List (Key × PyData)} {ks : List (Key × V)} (r : KRel F kvs ks) (k : Key) : (valV ks k).isSome = (valD kvs k).isSome := by
  rcases valD_ok r k with ⟨z1, z2⟩ | ⟨d', v', z1, z2, _⟩ <;> rw [z1, z2] <;> rfl
theorem le_din {te ty : TE} {we wy : WE} (hy : LE ty wy) (he : LE te we) : LE (tDIn ty te) (wDIn wy we) := fun _ _ _ _ _ _ _ h e hq o =>
  hy h e hq fun y M1 v w1 H1 s1 h1 r1 q1 => he h1 (e.grow s1.grow) q1 fun x M2 v2 w2 H2 s2 h2 r2 q2 => by
    obtain ⟨n, kvs, ey, k, rfl, hm, hv, hk, q⟩ := q2
    obtain ⟨a, ob, rfl, ha, ho, ks, rfl, r⟩ := cell_at h2 r2 hm (fun q => nomatch q)
    have ek := keyD_ok (view_ok h2 (r1.grow s2.grow) hv) hk
    subst ek
    refine ⟨a, _, rfl, DGet.k ho, ?_⟩
    rw [isSome_rel r k]
    exact ((o.trans s1 h1).trans s2 h2).here h2 (RU.D (.bl _)) q
theorem le_dnotin {te ty : TE} {we wy : WE} (hy : LE ty wy) (he : LE te we) : LE (tDNotIn ty te) (wDNotIn wy we) := fun _ _ _ _ _ _ _ h e hq o =>
  hy h e hq fun y M1 v w1 H1 s1 h1 r1 q1 => he h1 (e.grow s1.grow) q1 fun x M2 v2 w2 H2 s2 h2 r2 q2 => by
    obtain ⟨n, kvs, ey, k, rfl, hm, hv, hk, q⟩ := q2
    obtain ⟨a, ob, rfl, ha, ho, ks, rfl, r⟩ := cell_at h2 r2 hm (fun q => nomatch q)
    have ek := keyD_ok (view_ok h2 (r1.grow s2.grow) hv) hk
    subst ek
    refine ⟨a, _, rfl, DGet.k ho, ?_⟩
    rw [isSome_rel r k]
    exact ((o.trans s1 h1).trans s2 h2).here h2 (RU.D (.bl _)) q
/-- d[y] = v -/
def wDPut (we wy wv : WE) : WS := fun De ρ M => wv ρ M fun z M1 => we ρ M1 fun x M2 => wy ρ M2 fun y M3 => ∃ n kvs e k d, x = .p n ∧ M3[n]? = some (.dic kvs) ∧ view M3 y = some e ∧ keyD e = some k ∧ z = .d d ∧ kvs.length < sizeLine ∧ De.nx ρ (M3.set n (.dic (putD kvs k d)))
theorem ls_dput {te ty tv : TE} {we wy wv : WE} (he : LE te we) (hy : LE ty wy) (hv : LE tv wv) : LS (sDPut te ty tv) (wDPut we wy wv) := fun _ _ _ _ _ _ _ h e hq o =>
  hv h e hq fun z M1 v w1 H1 s1 h1 r1 q1 => he h1 (e.grow s1.grow) q1 fun x M2 v2 w2 H2 s2 h2 r2 q2 => hy h2 ((e.grow s1.grow).grow s2.grow) q2 fun y M3 v3 w3 H3 s3 h3 r3 q3 => by
    obtain ⟨n, kvs, ey, k, d, rfl, hm, hvw, hk, rfl, hl, q⟩ := q3
    obtain ⟨a, ob, rfl, ha, ho, ks, rfl, r⟩ := cell_at h3 (r2.grow s3.grow) hm (fun q => nomatch q)
    have ek := keyD_ok (view_ok h3 r3 hvw) hk
    subst ek
    have rd : Rp w3.F d v := (r1.grow s2.grow).grow s3.grow
    refine ⟨a, _, rfl, DPut.k ho (by rw [← Paired.length r]; exact hl), ?_⟩
    exact o.nx _ _ _ _ _ (((s1.trans h1 s2).trans h2 s3).trans h3 (Step.set ha)) (h3.set ha hm (fun q => nomatch q) (RO.Dic (putD_ok r rd k))) (((e.grow s1.grow).grow s2.grow).grow s3.grow) q
/-- {k: v, ..}: a new cell -/
def wPairs : List (WE × WE) → Rho → List Ob → (List (U × U) → List Ob → Prop) → Prop
  | [], _, M, Q => Q [] M
  | (wk, wv) :: r, ρ, M, Q => wk ρ M fun x M1 => wv ρ M1 fun y M2 => wPairs r ρ M2 fun ps M3 => Q ((x, y) :: ps) M3
abbrev LPs : List (TE × TE) → List (WE × WE) → Prop := Paired fun t w => LE t.1 w.1 ∧ LE t.2 w.2
theorem lps_nil : LPs [] [] := .nil
theorem lps_cons {tk tv : TE} {wk wv : WE} {ts : List (TE × TE)} {ws : List (WE × WE)} (h1 : LE tk wk) (h2 : LE tv wv) (r : LPs ts ws) : LPs ((tk, tv) :: ts) ((wk, wv) :: ws) := .cons ⟨h1, h2⟩ r
abbrev RUU (w : Wd) : List (U × U) → List (V × V) → Prop := Paired fun a b => RU w a.1 b.1 ∧ RU w a.2 b.2
theorem RUU.grow {w w' : Wd} {as : List (U × U)} {bs : List (V × V)} (g : Grow w w') (r : RUU w as bs) : RUU w' as bs := Paired.mapP r fun _ _ q => ⟨q.1.grow g, q.2.grow g⟩
theorem pairs_ok {trs : List (TE × TE)} {wrs : List (WE × WE)} (l : LPs trs wrs) : ∀ {w : Wd} {M : List Ob} {H : Hp} {σ : L2.St} {ρ : Rho} {Qp : List (U × U) → List Ob → Prop} {N : List (V × V) → Hp → Prop}, Hold w M H → Env w σ ρ → wPairs wrs ρ M Qp →
    (∀ us M' vs w' H', Step w H w' H' → Hold w' M' H' → RUU w' us vs → Qp us M' → N vs H') → tPairs trs σ H N := by
  induction l with
  | nil => intro w M H σ ρ Qp N h e hq o; exact o [] M [] w H (Step.refl w H) h .nil hq
  | @cons t wr ts wrs hl _ ih =>
    intro w M H σ ρ Qp N h e hq o
    obtain ⟨t1, t2⟩ := t
    obtain ⟨w1, w2⟩ := wr
    refine hl.1 h e hq fun x M1 v w1 H1 s1 h1 r1 q1 => hl.2 h1 (e.grow s1.grow) q1 fun y M2 v2 w2 H2 s2 h2 r2 q2 => ih h2 ((e.grow s1.grow).grow s2.grow) q2 fun us M3 vs w3 H3 s3 h3 r3 q3 => ?_
    exact o _ _ _ _ _ ((s1.trans h1 s2).trans h2 s3) h3 (.cons ⟨(r1.grow s2.grow).grow s3.grow, r2.grow s3.grow⟩ r3) q3
/-- texts and ints as keys, data as values -/
def keysD : List (U × U) → Option (List (Key × PyData))
  | [] => some []
  | (.d k, .d v) :: r => match keyD k, keysD r with
    | some k, some r => some ((k, v) :: r)
    | _, _ => none
  | _ :: _ => none
theorem keysD_ok {w : Wd} : ∀ {us : List (U × U)} {vs : List (V × V)} {kvs : List (Key × PyData)}, RUU w us vs → keysD us = some kvs → ∃ ks : List (Key × V), vs = ks.map (fun kv => (kV kv.1, kv.2)) ∧ KRel w.F kvs ks
  | _, _, _, .nil, e => by cases e; exact ⟨[], rfl, .nil⟩
  | (.d k, .d v) :: us, (x, y) :: vs, kvs, .cons h t, e => by
    unfold keysD at e
    cases e1 : keyD k with
    | none => rw [e1] at e; cases e
    | some k' =>
      cases e2 : keysD us with
      | none => rw [e1, e2] at e; cases e
      | some r =>
        rw [e1, e2] at e
        cases e
        obtain ⟨ks, rfl, q⟩ := keysD_ok t e2
        have ek : x = kV k' := by
          have hx : Rp w.F k x := h.1
          cases k with
          | int i => cases hx; cases e1; rfl
          | str z => cases hx; cases e1; rfl
          | _ => cases e1
        subst ek
        exact ⟨(k', y) :: ks, rfl, .cons ⟨rfl, h.2⟩ q⟩
  | (.d k, .p _) :: _, _, _, _, e => by cases e
  | (.d k, .v _) :: _, _, _, _, e => by cases e
  | (.d k, .s _ _) :: _, _, _, _, e => by cases e
  | (.p _, _) :: _, _, _, _, e => by cases e
  | (.v _, _) :: _, _, _, _, e => by cases e
  | (.s _ _, _) :: _, _, _, _, e => by cases e
theorem putK_new : ∀ (ks : List (Key × V)) (k : Key) (v : V), k ∉ ks.map (·.1) → putK ks k v = ks ++ [(k, v)] := by
  intro ks k v h
  unfold putK
  rw [if_neg]
  rw [List.any_eq_true]
  rintro ⟨kv, h1, h2⟩
  exact h (List.mem_map.mpr ⟨kv, h1, of_decide_eq_true h2⟩)
theorem mergeK_new : ∀ (more ks : List (Key × V)), (ks.map (·.1) ++ more.map (·.1)).Nodup → mergeK ks more = ks ++ more
  | [], ks, _ => by simp [mergeK]
  | (k, v) :: more, ks, h => by
    have h1 : k ∉ ks.map (·.1) := fun hk => by
      rw [List.map_cons] at h
      exact (List.nodup_append.mp h).2.2 k hk k List.mem_cons_self rfl
    show mergeK (putK ks k v) more = _
    rw [putK_new ks k v h1, mergeK_new more _ (by simpa using h)]
    simp
theorem keys_rel {F : Hp} {kvs : List (Key × PyData)} {ks : List (Key × V)} (r : KRel F kvs ks) : ks.map (·.1) = kvs.map (·.1) := by
  induction r with
  | nil => rfl
  | cons h t ih => rw [List.map_cons, List.map_cons, ih, h.1]
def wDisp (wrs : List (WE × WE)) : WE := fun ρ M Q => wPairs wrs ρ (M ++ [.dic []]) fun ps M1 => M1[M.length]? = some (.dic []) ∧ ∃ kvs, keysD ps = some kvs ∧ kvs.length ≤ 15 ∧ (kvs.map (·.1)).Nodup ∧ Q (.p M.length) (M1.set M.length (.dic kvs))
theorem le_disp {trs : List (TE × TE)} {wrs : List (WE × WE)} (l : LPs trs wrs) : LE (tDisp trs) (wDisp wrs) := fun w M H σ ρ Qu Q h e hq o p hp => by
  have s0 : Step w H (w.cell p) (upd H p (.dK [])) := Step.cell h hp
  have h0 : Hold (w.cell p) (M ++ [.dic []]) (upd H p (.dK [])) := h.cell' hp (RO.Dic .nil)
  refine pairs_ok l h0 (e.grow s0.grow) hq fun us M' vs w' H' s1 h1 r1 q1 => ?_
  obtain ⟨hm, kvs, hk, h15, hn, q⟩ := q1
  have rp : RU (w.cell p) (.p M.length) (.ref p) := RU.P (Wd.cell_at h)
  obtain ⟨a, ob, ea, ha, ho, ks0, rfl, r⟩ := cell_at h1 (rp.grow s1.grow) hm (fun q => nomatch q)
  cases ea
  cases r
  obtain ⟨ks, rfl, r2⟩ := keysD_ok r1 hk
  refine ⟨ho, ks, rfl, by rw [← Paired.length r2]; exact h15, ?_⟩
  rw [mergeK_new ks [] (by rw [List.map_nil, List.nil_append, keys_rel r2]; exact hn), List.nil_append]
  exact o _ _ _ _ _ ((s0.trans h0 s1).trans h1 (Step.set ha)) (h1.set ha hm (fun q => nomatch q) (RO.Dic r2)) (rp.grow s1.grow) q
end DL

namespace DL
open PySem L2
/-- a list's thing, by values -/
theorem get_list {X : Cx} : PGet X (rIxL X.K) := by
  intro pins s σ H x y v u Q I rx ry h
  obtain ⟨p, xs, i, z, rfl, rfl, hq, he, q⟩ := h
  cases rx
  obtain ⟨t, rfl⟩ := ry
  obtain ⟨its, r, pl, hz⟩ := I.list hq
  obtain ⟨j, h1, h2, h3, h4, h5⟩ := atI_get he
  obtain ⟨w, ew, rw'⟩ := r.get h2
  have hl := r.length
  have hn := line63
  have fin : EP X pins σ Q w s := ⟨z, H, I, rw', q⟩
  by_cases h0 : 0 ≤ i
  · have hj : i.toNat = j := by
      rw [seqIndex_of h0 h5] at h1
      exact Option.some.inj h1
    exact wpAny_getItem_list pl.isList h0 (by omega) (by rw [hj]; simpa using ew) fin
  · have hj : (i + (its.toArray.size : Int)).toNat = j := by
      rw [seqIndex_neg (by omega) h4] at h1
      rw [List.size_toArray, ← hl]
      exact Option.some.inj h1
    exact wpAny_getItem_list_neg pl.isList (by omega) (by rw [List.size_toArray] <;> omega) (by omega) (by rw [hj]; simpa using ew) fin
def wIxL : R2' := fun x y M Q => ∃ ds i d, view M x = some (.list ds) ∧ view M y = some (.int i) ∧ atI ds i = some d ∧ Q (.d d) M
theorem lr_ixL {K : PySem.W.Frag} : LR (rIxL K) wIxL := fun w M H x y vx vy Qu Q h rx ry hq o => by
  obtain ⟨ds, i, d, ea, ei, hx, q⟩ := hq
  obtain ⟨p, vs, rfl, hp, r⟩ := view_ok h rx ea
  obtain ⟨v, h1, h2⟩ := atI_rep r hx
  exact ⟨p, vs, i, v, rfl, vw_int (view_ok h ry ei), SqL.of hp, h1, o.here h (RU.D h2) q⟩
theorem lr_ipI {f : Int → Int → Int} {g : R2'} (h : LR (rI0 fun i j => .int (f i j)) g) : LR (ipI f) g := h
theorem x_getL {X : Cx} {K : PySem.W.Frag} (h : X.K = K) : PGet X (rIxL K) := h ▸ get_list
/-- o[i] op= e -/
def wAugS (wo wi : WE) (wget : R2') (we : WE) (wip : R2') (wset : U → U → U → List Ob → (List Ob → Prop) → Prop) : WS := fun De ρ M => wo ρ M fun o M1 => wi ρ M1 fun i M2 => wget o i M2 fun x M3 => we ρ M3 fun y M4 => wip x y M4 fun z M5 => wset o i z M5 fun M6 => De.nx ρ M6
theorem ls_augS {to ti te : TE} {tget : V → V → Hp → VK → Prop} {tip : TIp} {tset : TSet} {wo wi we : WE} {wget wip : R2'} {wset : U → U → U → List Ob → (List Ob → Prop) → Prop} (ho : LE to wo) (hi : LE ti wi) (hg : LR tget wget) (he : LE te we) (hp : LR tip wip) (hs : LSet tset wset) :
    LS (tAugS to ti te tget tip tset) (wAugS wo wi wget we wip wset) := fun _ _ _ _ _ _ _ h e hq o =>
  ho h e hq fun x1 M1 v1 w1 H1 s1 h1 r1 q1 => hi h1 (e.grow s1.grow) q1 fun x2 M2 v2 w2 H2 s2 h2 r2 q2 => hg h2 (r1.grow s2.grow) r2 q2 fun x3 M3 v3 w3 H3 s3 h3 r3 q3 =>
    he h3 (((e.grow s1.grow).grow s2.grow).grow s3.grow) q3 fun x4 M4 v4 w4 H4 s4 h4 r4 q4 => hp h4 (r3.grow s4.grow) r4 q4 fun x5 M5 v5 w5 H5 s5 h5 r5 q5 =>
      hs h5 ((((r1.grow s2.grow).grow s3.grow).grow s4.grow).grow s5.grow) (((r2.grow s3.grow).grow s4.grow).grow s5.grow) r5 q5 fun M6 w6 H6 s6 h6 q6 =>
        o.nx _ _ _ _ _ (((((s1.trans h1 s2).trans h2 s3).trans h3 s4).trans h4 s5).trans h5 s6) h6 ((((((e.grow s1.grow).grow s2.grow).grow s3.grow).grow s4.grow).grow s5.grow).grow s6.grow) q6
end DL

/-! ### promises of defs that may ask for a container's text: no repr is under way around them -/
namespace DL
open PySem L2 PySem.Spec PyProof.Rows
abbrev Calm (A : Around) : Prop := A.guards = some []
section
variable {P : Program} {w : World} {K : PySem.W.Frag} {mg : Str → Option Value} {base : Heap} {CX : CXT}
structure GnOk (P : Program) (w : World) (K : PySem.W.Frag) (mg : Str → Option Value) (base : Heap) (CX : CXT) (k : Nat) (f : Addr) (fd : FuncData) (ps : List Str) (sp : Sp) : Prop where
  ln : ∀ vs H Q E, sp vs H Q E → vs.length = ps.length
  go : ∀ (A : Around) (fr : List PySem.Env) (s : Shared) (H : Hp) (ar : Args) (us : List Value) (vs : List V) (Q : VK) (E : XK), Calm A → Room k A →
    Env0 P w K mg base A fr s H → BindsTo s fd ar (ps.zip us) → Vals vs us → sp vs H Q E → codeAny (model P w) A (.call (.ref f) ar) (CR CX fr P w H s Q E) s
theorem GnOk.of {k : Nat} {f : Addr} {fd : FuncData} {ps : List Str} {sp : Sp} (F : FnOk P w K mg base CX k f fd ps sp) : GnOk P w K mg base CX k f fd ps sp :=
  ⟨F.len, fun A fr s H ar us vs Q E _ r e b v h => F.run A fr s H ar us vs Q E r e b v h⟩
theorem GnOk.mono {j k : Nat} {f : Addr} {fd : FuncData} {ps : List Str} {sp : Sp} (F : GnOk P w K mg base CX j f fd ps sp) (hjk : j ≤ k) : GnOk P w K mg base CX k f fd ps sp :=
  ⟨F.ln, fun A fr s H ar us vs Q E c r => F.go A fr s H ar us vs Q E c (r.mono hjk)⟩
/-- a def's body, the text's own record of it at hand -/
theorem gn_of {k : Nat} {f : Addr} {nm ql : Str} {pa : Arguments} {bd : List Stmt} {sc : Scope} {v1 v2 v3 v4 v5 v6 v7 : Value} {a1 a2 : Option Addr} {sl : Array (Option Value)} {N ps : List Str} {sp : Sp}
    (hl : K.lookup f = some ⟨v7, a2, .func (PySem.W.fnOf nm ql pa bd sc v1 v2 v3 v4 a1 v5 v6), sl⟩) (hc : PySem.W.codeIn K v5 ql = true) (S : FnScope N ps sc) (hn : ∀ vs H Q E, sp vs H Q E → vs.length = ps.length)
    (hb : ∀ (A : Around) (fr : List PySem.Env) (s : Shared) (H : Hp) (vs : List V) (Q : VK) (E : XK), Calm A → Room k (A.deeper (envOfC ql sc s.heap.objs.size f v5)) → sp vs H Q E →
      ∃ t, PSs (cxOf CX P w K mg base N ql sc f v5 A fr s H E) bd t ∧ t { nx := fun _ H' => Q .non H', rt := Q } (start N vs) H) : GnOk P w K mg base CX (k + 1) f (PySem.W.fnOf nm ql pa bd sc v1 v2 v3 v4 a1 v5 v6) ps sp := by
  constructor
  · exact hn
  intro A fr s H ar us vs Q E cm rm e0 bt rv hsp
  have KI : K.In s.heap := e0.mod.kin.keeps fun b o z => (e0.bs b o z).1
  have NL : s.heap.NoLimit := e0.mod.nolimit.keeps fun b o z => (e0.bs b o z).1
  have hk : ∀ y ∈ ps.zip us, sc.names.lookup y.1 = some .local ∨ (sc.names.lookup y.1 = some .cell ∧ ((cellsFrom (s.heap.objs.size + 1) sc.names []).lookup y.1).isSome = true) := by
    rintro ⟨n, v⟩ hy
    exact (S.par n (List.of_mem_zip hy).1).imp id fun q => ⟨q, PySem.W.cellsFrom_some _ _ _ (.inl q)⟩
  apply codeAny_call_function rm.depth (KI _ _ hl) rfl S.co S.gen rfl (PySem.W.codeRec_of KI hc) (bt _ _ _ _ _)
  apply wpAny_newFunctionEnv_cells S.kind hk
  rintro env rfl s1 x
  refine ⟨NL.keeps x.toInCall.keep, codeAny_func ?_⟩
  obtain ⟨t, ht, hq⟩ := hb A fr s H vs Q E cm (rm.deeper _) hsp
  have I0 := inv_start (CX := CX) (E := E) S rm.hd e0 (hn _ _ _ _ hsp) rv x
  have done : ∀ {σ' : L2.St} {H' : Hp} {v : V} {u : Value} {s' : Shared}, Inv (cxOf CX P w K mg base N ql sc f v5 A fr s H E) [] σ' H' s' → RelV v u → Q v H' → CE fr P w H s Q u s' :=
    fun J r q => ⟨_, _, J.os, J.bare, J.base, J.hok, r, q⟩
  refine wpAny_mono (ht.run [] s1 (start N vs) H _ I0 hq) (fun fl s' z => ?_) fun _ _ z => z
  match fl, z with
  | .ret u, ⟨_, _, _, J, r, q⟩ => exact done J r q
  | .next, ⟨_, _, J, q⟩ => exact done (v := V.non) (u := Value.none) J rfl q
  | .brk, ⟨_, _, _, q⟩ => exact q.elim
  | .cont, ⟨_, _, _, q⟩ => exact q.elim
theorem okG {x ql : Str} {st : Stmt} {f : Addr} {fd : FuncData} {N ps : List Str} {k : Nat} {sp : Sp} (F : Fun K x ql st f fd) (S : FnScope N ps (defScope st)) (hn : ∀ vs H Q E, sp vs H Q E → vs.length = ps.length)
    (hb : ∀ (cdv : Value) (A : Around) (fr : List PySem.Env) (s : Shared) (H : Hp) (vs : List V) (Q : VK) (E : XK), Calm (A.deeper (envOfC ql (defScope st) s.heap.objs.size f cdv)) → Room k (A.deeper (envOfC ql (defScope st) s.heap.objs.size f cdv)) → sp vs H Q E →
      ∃ t, PSs (cxOf CX0 P w K mg base N ql (defScope st) f cdv A fr s H E).nox (defBody st) t ∧ t { nx := fun _ H' => Q .non H', rt := Q } (start N vs) H) : GnOk P w K mg base CX0 (k + 1) f fd ps sp := by
  obtain ⟨v7, a2, v2, v3, v4, a1, v5, v6, sl, rfl, hl, hc⟩ := F.ex
  refine gn_of hl hc S hn fun A fr s H vs Q E cm rm hsp => ?_
  obtain ⟨t, h1, h2⟩ := hb v5 A fr s H vs Q E cm rm hsp
  exact ⟨t, h1.nox, h2⟩
end
section
variable {X : Cx} {CX : CXT} {k : Nat} {f : Addr} {fd : FuncData} {ps : List Str} {sp : Sp} {dvs : List V} {ds : List Value} {E : XK} {x : Str} {p pos : Pos} {e : Expr} {es : List Expr} {t : TA}
theorem run_gn {pins : List (Addr × Obj)} {σ : L2.St} {H : Hp} {s : Shared} {Q : VK} {us : List Value} {vs : List V} (F : GnOk X.prog X.w X.K X.mg X.base CX k f fd ps sp) (cm : Calm X.A) (rm : Room k X.A) (hb : Binds X.K fd ps ds) (hd : Vals dvs ds) (hx : Passes CX X E)
    (I : Inv X pins σ H s) (rv : Vals vs us) (h : sp (vs ++ dvs) H Q E) : wpAny (model X.prog X.w) X.A (call (.ref f) us) (EP X pins σ Q) X.xe s := by
  have ra := rv.append hd
  have ln : (us ++ ds).length = ps.length := ra.length.symm.trans (F.ln _ _ _ _ h)
  apply wpAny_call
  refine codeAny_mono (F.go X.A X.stack s H ⟨us, []⟩ _ _ Q E cm rm I.env0 (hb s us I.kIn ln) ra h) fun r s' z => ?_
  match r, z with
  | .error e, z => exact hx pins σ H s e s' I z
  | .ok (.ret u), z => exact I.after z
  | .ok .next, z => exact z.elim
  | .ok .brk, z => exact z.elim
  | .ok .cont, z => exact z.elim
theorem pe_callG (F : GnOk X.prog X.w X.K X.mg X.base CX k f fd ps sp) (cm : Calm X.A) (rm : Room k X.A) (hg : Gl X x) (hm : X.mg x = some (.ref f)) (hk : PySem.W.keepIn X.K (.ref f) = true) (hb : Binds X.K fd ps ds) (hd : Vals dvs ds) (hx : Passes CX X E)
    (ha : PA X (e :: es) t) (h1 : (x == ("__debug__" : Str)) = false := by decide) (h2 : starEach (e :: es) X.env = (false, eval e X.env) :: starEach es X.env := by rfl) (h3 : (backTo pos (starEach es X.env)).any (·.1) = false := by rfl) :
    PE X (.Call (.Name x p) (e :: es) [] pos) (tCall sp dvs E t) := by
  constructor
  intro pins s σ H Q I h
  refine wpAny_Call_Name_kw (ld_glob I hg hm ?_ h1)
  exact PySem.W.callWith_K (h₀ := X.base) I.ok.mod.kin hk (thn (ha.run pos pins s σ H _ I h) fun us s1 ⟨vs, H1, I1, r, q⟩ => ⟨I1.kIn, run_gn F cm rm hb hd hx I1 r q⟩) h2 h3
/-- str of a list, a tuple -/
def rStrB (K : PySem.W.Frag) : List V → Hp → VK → Prop := fun xs H Q => ∃ v d, xs = [v] ∧ Dp K H v d ∧ isDisplay d = true ∧ d.showable = true ∧ d.hasDict = false ∧ d.depth ≤ 60 ∧ d.shown.length ≤ sizeLine ∧ Q (.str d.shown) H
theorem call_strB (cm : Calm X.A) (hu : X.A.units + 64 < cLine) : CallR X (.type "str") (rStrB X.K) := by
  rintro pins s σ H xs us Q I rv ⟨v, d, rfl, hd, h1, h2, h3, h4, h5, q⟩
  cases rv with
  | cons r t =>
    cases t
    obtain ⟨as, rd⟩ := Dp.reads I d _ _ hd r
    obtain ⟨a, rfl⟩ := isRef_of_reads rd h1
    exact str_of_reads rd h2 (PyData.noDict_hsm h3) cm (by omega) (fun _ _ z => z) (fun h' u tk hk => ⟨.str d.shown, H, I.kept hk, ⟨u, rfl⟩, q⟩) h5
end
def wStrB : List U → List Ob → (U → List Ob → Prop) → Prop := fun us M Q => ∃ u d, us = [u] ∧ view M u = some d ∧ isDisplay d = true ∧ d.showable = true ∧ d.hasDict = false ∧ d.depth ≤ 60 ∧ d.shown.length ≤ sizeLine ∧ Q (.d (.str d.shown)) M
theorem lc_strB {K : PySem.W.Frag} : LC (rStrB K) wStrB := fun w M H x vx Qu Q h rx hq o => by
  obtain ⟨u, d, rfl, hv, h1, h2, h3, h4, h5, q⟩ := hq
  cases rx with
  | cons r t =>
    cases t
    exact ⟨_, d, rfl, Vw.dp h.sub (view_ok h r hv), h1, h2, h3, h4, h5, o.here h (RU.D (.str _)) q⟩
/-- the head: the law's own def is called, on its script -/
theorem law_callG {P : Program} {w : World} {K : PySem.W.Frag} {mg mb : Str → Option Value} {CX : CXT} {k : Nat} {fa a : Addr} {fd : FuncData} {x : Str} {sp : Sp} {s1 : Shared} {vs : List Value} {ns : List Int}
    (hK : K.In s1.heap) (hm : s1.heap.Ns mainGlobals mg) (hb : s1.heap.Ns builtinsNs mb) (hbb : ∀ x : Str, x ≠ "__name__" → mb x = bootBuiltins x) (hlim : s1.heap.NoLimit) (hg : s1.gens = #[]) (ho : s1.heap.get? a = some { cls := .type "list", data := .seq vs.toArray })
    (hi : IntsAre vs ns) (hl : ns.length ≤ sizeLine) (rm : Room k callerA) (F : ∀ base : Heap, K.In base → base.Ns mainGlobals mg → GnOk P w K mg base CX k fa fd [x] sp) (hbind : ∀ (s : Shared) (u : Value), BindsTo s fd ⟨[u], []⟩ [(x, u)])
    (hsp : ∀ H : Hp, Only H → SqL K H a (ns.map V.int) → sp [.ref a] H (fun v _ => v = .bl true) fun _ _ _ => False) (hC : ∀ H e s', CX [] H s1 (fun _ _ _ => False) e s' → False) :
    codeAny (model P w) callerA (.call (.ref fa) ⟨[.ref a], []⟩) (fun r s' => r = .ok (.ret (.bool true)) ∧ OldK s1.heap s'.heap ∧ s'.os = s1.os ∧ AllBare s'.gens) s1 := by
  have core : ∀ H : Hp, Only H → SqL K H a (ns.map V.int) → HOk P w H s1.heap → (∀ b, H b ≠ none → b = a ∧ K.lookup a = none) →
      codeAny (model P w) callerA (.call (.ref fa) ⟨[.ref a], []⟩) (fun r s' => r = .ok (.ret (.bool true)) ∧ OldK s1.heap s'.heap ∧ s'.os = s1.os ∧ AllBare s'.gens) s1 := by
    intro H onl sq hok own
    -- what is no dict of the script's own is not hidden
    have dct : ∀ {b : Addr} {o : Obj} {es : Array DictEntry} {n : Nat}, s1.heap.get? b = some o → o.data = .dict es n → H b = none := by
      intro b o es n e dd
      apply Classical.byContradiction
      intro z
      have eb := (own b z).1
      subst eb
      rw [ho] at e
      cases e
      exact absurd dd (by nofun)
    have nsp : ∀ {b : Addr} {m : Str → Option Value}, s1.heap.Ns b m → (hidT s1.heap H).Ns b m := by
      rintro b m ⟨o, es, n, e, dd, rest⟩
      exact ⟨o, es, n, hidT_get e (dct e dd), dd, rest⟩
    have kin : K.In (hidT s1.heap H) := by
      intro b o e
      refine hidT_get (hK b o e) (Classical.byContradiction fun z => ?_)
      obtain ⟨rfl, q⟩ := own b z
      rw [q] at e
      cases e
    obtain ⟨mc, l1, l2⟩ := hlim
    have md : Mod K mg (hidT s1.heap H) := ⟨kin, nsp hm, ⟨mb, nsp hb, hbb⟩, ⟨mc, nsp l1, l2⟩⟩
    have e0 : Env0 P w K mg (hidT s1.heap H) callerA [] s1 H := { frames := rfl, mod := md, bs := fun b o e => of_hidT e, bsz := Nat.le_of_eq (hidT_size _ _), funs := trivial, frf := fun b z => (nomatch z), hok := hok, bare := .of_eq hg }
    have run := (F _ kin (nsp hm)).go callerA [] s1 H ⟨[.ref a], []⟩ [.ref a] [.ref a] _ _ rfl rm e0 (hbind s1 (.ref a)) (.cons rfl .nil) (hsp H onl sq)
    refine codeAny_mono run fun r s' z => ?_
    match r, z with
    | .error e, z => exact (hC H e s' z).elim
    | .ok .next, z => exact z.elim
    | .ok .brk, z => exact z.elim
    | .ok .cont, z => exact z.elim
    | .ok (.ret u), z =>
      obtain ⟨v, H', q1, q2, un, ok2, rv, q⟩ := z
      have q' : v = .bl true := q
      subst q'
      have eu : u = Value.bool true := rv
      subst eu
      refine ⟨rfl, OldK.of_keep ?_, q1, q2⟩
      intro b o e
      rcases onl b with z | ⟨ob, xs, z⟩
      · exact un.keep b o e z (fun y => (nomatch y)) (fun y => (nomatch y))
      · have t1 := (hok b _ z).1
        have t2 := (ok2 b _ (un.frzs b ob _ z)).1
        rw [e] at t1
        cases t1
        exact t2
  have rv := vals_ints hi
  have lv : vs.length = ns.length := hi.length
  cases hk : K.lookup a with
  | none =>
    have fz : ∀ b u, (if b = a then some (HO.frz { cls := .type "list", data := .seq vs.toArray } (.lst (ns.map V.int))) else none) = some u → b = a ∧ u = HO.frz { cls := .type "list", data := .seq vs.toArray } (.lst (ns.map V.int)) := by
      intro b u z
      by_cases c : b = a
      · rw [if_pos c] at z; exact ⟨c, (Option.some.inj z).symm⟩
      · rw [if_neg c] at z; cases z
    refine core (fun b => if b = a then some (.frz { cls := .type "list", data := .seq vs.toArray } (.lst (ns.map V.int))) else none) ?_ (.inl (.inr ⟨_, if_pos rfl⟩)) ?_ ?_
    · intro b
      by_cases c : b = a
      · exact .inr ⟨_, _, if_pos c⟩
      · exact .inl (if_neg c)
    · intro b u z
      obtain ⟨rfl, rfl⟩ := fz b u z
      exact ⟨ho, by rw [List.length_map]; exact hl, vs, _, rv, ho⟩
    · intro b z
      refine ⟨Classical.byContradiction fun c => z (if_neg c), hk⟩
  | some o =>
    have e := hK a o hk
    rw [ho] at e
    cases e
    exact core (fun _ => none) (fun _ => .inl rfl) (.inr ⟨_, vs.toArray, _, hk, rfl, rfl, rfl, by rw [List.size_toArray, lv]; exact hl, by simpa using rv⟩) (fun b u z => (nomatch z)) fun b z => absurd rfl z
/-- what k_head leaves, from the law's promise -/
theorem walk_ofG {l : PySem.W.OpenLaw} {n k : Nat} {q : Program} {loose : List Str} {XP : (Str → Option Value) → Heap → Prop} {YP : World → Heap → Prop} {d : DefRec} {K : Params → PySem.W.Frag} {CX : CXT} {sp : PySem.W.Frag → Sp} {x : Str}
    (hn : l.most = some n) (hz : n ≤ sizeLine) (hdf : d.params.defaults = []) (rm : Room k callerA) (hY : ∀ (w : World) (h : Heap), YP w h → (K w.params).In h)
    (F : ∀ (w : World) (mg : Str → Option Value) (fa : Addr) (h : Heap), (K w.params).In h → h.Ns mainGlobals mg → mg d.name = some (.ref fa) → ∃ fd : FuncData, (∀ (s : Shared) (u : Value), BindsTo s fd ⟨[u], []⟩ [(x, u)]) ∧
      ∀ base : Heap, (K w.params).In base → base.Ns mainGlobals mg → GnOk l.prog w (K w.params) mg base CX k fa fd [x] (sp (K w.params)))
    (hsp : ∀ (K : PySem.W.Frag) (H : Hp) (a : Addr) (ns : List Int), ns.length ≤ n → Only H → SqL K H a (ns.map V.int) → sp K [.ref a] H (fun v _ => v = .bl true) fun _ _ _ => False)
    (hC : ∀ (H : Hp) (s : Shared) (e : Value) (s' : Shared), CX [] H s (fun _ _ _ => False) e s' → False) : PySem.W.WalkO q loose XP YP l.row.toRowW d [] (fun f vs => PySem.call f vs) := by
  apply Att.attach_call hn hdf
  intro w s0 s1 mg mb fa o pm cd doc a vs ns G Y _ _ _ hmg hobj hints hlen hg
  obtain ⟨fd, hb, hF⟩ := F w mg fa _ (hY w _ Y) G.T.g hmg
  exact law_callG (hY w _ Y) G.T.g G.T.b G.T.builtins G.T.nolimit hg hobj hints (Nat.le_trans hlen hz) rm hF hb (fun H h1 h2 => hsp _ H a ns hlen h1 h2) fun H e s' => hC H s1 e s'
end DL

/-! ### calls that read cells; more methods, ranges, dicts of pairs -/
namespace DL
open PySem L2
/-- all list cells as data -/
noncomputable def froz (w : Wd) (H : Hp) : Hp := fun a => match w.F a with
  | some o => some o
  | none => match Classical.propDecidable (a ∈ w.th) with
    | .isTrue _ => (match H a with
      | some (.lst vs) => some (.lst vs)
      | _ => none)
    | .isFalse _ => none
theorem froz_F {w : Wd} {H : Hp} : Same w.F (froz w H) := fun a o e => by unfold froz; rw [e]
theorem froz_sub {w : Wd} {M : List Ob} {H : Hp} (h : Hold w M H) : Same (froz w H) H := fun a o e => by
  unfold froz at e
  split at e
  · rename_i o' e'
    cases e
    exact h.sub a _ e'
  · split at e
    · split at e
      · rename_i vs e2
        cases e
        exact e2
      · cases e
    · cases e
theorem froz_at {w : Wd} {M : List Ob} {H : Hp} (h : Hold w M H) {a : Addr} {vs : List V} (ha : a ∈ w.th) (e : H a = some (.lst vs)) : froz w H a = some (.lst vs) := by
  unfold froz
  split
  · rename_i o e'
    have := h.sub a o e'
    rw [e] at this
    exact this.symm
  · split
    · rw [e]
    · exact absurd ha (by assumption)
theorem view_froz {w : Wd} {M : List Ob} {H : Hp} (h : Hold w M H) : ∀ {u : U} {v : V} {d : PyData}, RU w u v → view M u = some d → Rp (froz w H) d v
  | .d d', v, d, r, e => by cases e; exact Rp.mono froz_F r
  | .p n, v, d, r, e => by
    have q := view_ok h r e
    obtain ⟨a, ha, rfl⟩ := r
    have e' : (match M[n]? with | some (.lst ds) => some (PyData.list ds) | _ => none) = some d := e
    cases hm : M[n]? with
    | none => rw [hm] at e'; cases e'
    | some m =>
      rw [hm] at e'
      cases m with
      | lst ds =>
        cases e'
        obtain ⟨p, vs, ep, hp, rr⟩ := q
        cases ep
        exact .lst (froz_at h (List.mem_of_getElem? ha) hp) (rr.mono froz_F)
      | _ => cases e'
  | .v _, _, _, _, e => by cases e
  | .s _ _, _, _, _, e => by cases e
theorem views_froz {w : Wd} {M : List Ob} {H : Hp} (h : Hold w M H) : ∀ {us : List U} {vs : List V} {ds : List PyData}, RUs w us vs → views M us = some ds → RpL (froz w H) ds vs
  | _, _, _, .nil, e => by cases e; exact .nil
  | u :: us, v :: vs, ds, .cons r t, e => by
    unfold views at e
    cases q : view M u with
    | none => rw [q] at e; cases e
    | some d =>
      rw [q] at e
      cases q2 : views M us with
      | none => rw [q2] at e; cases e
      | some es =>
        rw [q2] at e
        cases e
        exact .cons (view_froz h r q) (views_froz h t q2)
theorem rp_flat {F F' : Hp} {z : PyData} {v : V} (h : flatD z = true) (r : Rp F z v) : Rp F' z v := by
  cases r with
  | non => exact .non
  | bl b => exact .bl b
  | int i => exact .int i
  | str x => exact .str x
  | lst _ _ => cases h
  | tup _ _ => cases h
/-- a call that reads data and list cells, and hands back a plain value -/
def wCallV (d : DSp) (dv : List PyData) (wr : WA) : WE := fun ρ M Q => wr ρ M fun us M1 => ∃ ds, views M1 us = some ds ∧ d ((ds ++ dv).map U.d) [] fun u Mc => ∃ z, u = .d z ∧ flatD z = true ∧ Q (.d z) M1
theorem le_callV {d : DSp} {dvs : List V} {dv : List PyData} {E : XK} {tr : TA} {wr : WA} (hd : ∀ w : Wd, RUs w (dv.map U.d) dvs) (hr : LA tr wr) : LE (tCall (liftSp d) dvs E tr) (wCallV d dv wr) := fun _ _ _ _ _ _ _ h e hq o =>
  hr h e hq fun us M1 vs w1 H1 s1 h1 r1 q1 => by
    obtain ⟨ds, e1, q⟩ := q1
    refine ⟨⟨froz w1 H1, []⟩, [], _, _, ⟨rfl, .nil, froz_sub h1, fun n a m e => by simp at e⟩, ?_, q, fun u Mc v w2 H2 s2 h2 r2 q2 => ?_⟩
    · rw [List.map_append]
      exact rus_app (RUs.of (w := ⟨froz w1 H1, []⟩) (views_froz h1 r1 e1)) (hd _)
    · obtain ⟨z, rfl, hz, q2⟩ := q2
      have keep : ∀ a o, H1 a = some o → H2 a = some o := fun a o e => s2.fr a o e (by simp)
      refine (o.trans s1 h1) _ _ v w1 H2 ⟨Same.refl _, ⟨[], by simp, by simp⟩, fun a o e _ => keep a o e, fun a o e1 e2 => by rw [e1] at e2; cases e2⟩ ?_ (RU.D (rp_flat hz (show Rp w2.F z v from r2))) q2
      refine ⟨h1.len, h1.nd, fun a o e => keep a o (h1.sub a o e), fun n a m e1 e2 => ?_⟩
      obtain ⟨ob, e3, e4⟩ := h1.cell n a m e1 e2
      exact ⟨ob, keep a ob e3, e4⟩
/-- insert(i, x) -/
def wInsert : WM := fun x ys M Q => ∃ n ds i d, x = .p n ∧ ys = [.d (.int i), .d d] ∧ M[n]? = some (.lst ds) ∧ ds.length < sizeLine ∧ 0 ≤ i ∧ i < 2 ^ 63 ∧ Q (.d .none) (M.set n (.lst (ds.take i.toNat ++ [d] ++ ds.drop i.toNat)))
def rInsert : V → List V → Hp → VK → Prop := fun x vs H Q => ∃ (l : Addr) (xs : List V) (i : Int) (y : V), x = .ref l ∧ vs = [.int i, y] ∧ H l = some (.lst xs) ∧ xs.length < sizeLine ∧ 0 ≤ i ∧ i < 2 ^ 63 ∧ Q .non (upd H l (.lst (xs.take i.toNat ++ [y] ++ xs.drop i.toNat)))
theorem x_insert {X : Cx} : MtR X "list.insert" rInsert := mt_insert
theorem lm_insert : LM rInsert wInsert := fun w M H x vx ys vs Qu Q h rx rs hq o => by
  obtain ⟨n, ds, i, d, rfl, rfl, hm, hl, h0, h1, q⟩ := hq
  cases rs with
  | cons r1 t =>
    cases t with
    | cons r2 t2 =>
      cases t2
      cases (show Rp w.F (.int i) _ from r1)
      obtain ⟨a, ob, rfl, ha, ho, ws, rfl, rr⟩ := cell_at h rx hm (fun q => nomatch q)
      exact ⟨a, ws, i, _, rfl, rfl, ho, by rw [← rr.length]; exact hl, h0, h1, set_out h ha hm (fun q => nomatch q) (RO.L (((rr.take i.toNat).append (.cons r2 .nil)).append (rr.drop i.toNat))) (RU.D .non) q o⟩
/-- reverse() -/
def wReverse : WM := fun x ys M Q => ∃ n ds, x = .p n ∧ ys = [] ∧ M[n]? = some (.lst ds) ∧ Q (.d .none) (M.set n (.lst ds.reverse))
theorem lm_reverse : LM rReverse wReverse := fun w M H x vx ys vs Qu Q h rx rs hq o => by
  obtain ⟨n, ds, rfl, rfl, hm, q⟩ := hq
  cases rs
  obtain ⟨a, ob, rfl, ha, ho, ws, rfl, rr⟩ := cell_at h rx hm (fun q => nomatch q)
  exact ⟨a, ws, rfl, rfl, ho, set_out h ha hm (fun q => nomatch q) (RO.L rr.reverse) (RU.D .non) q o⟩
/-- range(i, j, c) -/
def intsC (lo c : Int) (n : Nat) : List U := (List.range n).map fun i => U.d (.int (lo + (i : Nat) * c))
theorem j_rngC {w : Wd} {lo c : Int} {n : Nat} : JOk w (Itc lo c n) (intsC lo c n) fun _ => True where
  stop := fun i _ _ _ hi => by
    show n ≤ i
    simpa [intsC] using hi
  go := fun i _ _ _ hi => by
    show i < n
    simpa [intsC] using hi
  yld := fun {w' M H H' v u} i g h _ hu y => by
    obtain ⟨rfl, rfl⟩ := y
    have hl : i < n := by simpa [intsC] using (List.getElem?_eq_some_iff.mp hu).1
    have e : u = .d (.int (lo + (i : Nat) * c)) := by
      unfold intsC at hu
      rw [List.getElem?_map, List.getElem?_range hl] at hu
      exact (Option.some.inj hu).symm
    subst e
    exact ⟨w', Step.refl _ _, h, RU.D (.int _)⟩
def wIRng3 (wr : WA) : WI := fun ρ M Q => wr ρ M fun us M1 => ∃ i j c n, us = [.d (.int i), .d (.int j), .d (.int c)] ∧ RgC i j c n ∧ Q (intsC i c n) (fun _ => True) M1
theorem li_rng3 {tr : TA} {wr : WA} (hr : LA tr wr) : LI (iRng3 tr) (wIRng3 wr) := fun _ _ _ _ _ _ _ h e hq k =>
  hr h e hq fun _ _ _ _ _ s1 h1 r1 q1 => by
    obtain ⟨i, j, c, n, rfl, hR, q⟩ := q1
    refine ⟨i, j, c, n, ?_, hR, k _ _ _ _ _ _ s1 h1 j_rngC q⟩
    cases r1 with
    | cons a t =>
      cases t with
      | cons b t =>
        cases t with
        | cons d t =>
          cases t
          cases (show Rp _ _ _ from a)
          cases (show Rp _ _ _ from b)
          cases (show Rp _ _ _ from d)
          rfl
end DL

/-! ### small data: its text's length -/
namespace DL
open PySem L2 PySem.Spec PyProof.Rows
mutual
def tame : PyData → Bool
  | .none => true
  | .bool _ => true
  | .int i => decide (i.natAbs < 10 ^ 100)
  | .str x => PyData.strOk x && decide (x.length ≤ 100)
  | .list xs => decide (xs.length ≤ 10000) && tames xs
  | .tuple xs => decide (xs.length ≤ 10000) && tames xs
  | .dict _ => false
def tames : List PyData → Bool
  | [] => true
  | x :: xs => tame x && tames xs
end
mutual
def cnt : PyData → Nat
  | .list xs => cnts xs + 1
  | .tuple xs => cnts xs + 1
  | _ => 1
def cnts : List PyData → Nat
  | [] => 0
  | x :: xs => cnt x + cnts xs
end
theorem strOk_lt {x : Str} (h : PyData.strOk x = true) : ∀ c ∈ x.cps.toList, c < 16 ^ 8 := fun c hc => by
  unfold PyData.strOk at h
  rw [Array.all_eq_true_iff_forall_mem] at h
  have := of_decide_eq_true (h c (Array.mem_toList_iff.mp hc))
  have e : (0x110000 : Nat) ≤ 16 ^ 8 := by decide
  omega
theorem len_app (x y : Str) : (x ++ y).length = x.length + y.length := Str.length_append x y
theorem textFrom_le : ∀ (ts : List Str) (k : Nat) (acc : Str), (textFrom k acc ts).length ≤ acc.length + piled ts
  | [], k, acc => Nat.le_add_right _ _
  | t :: ts, k, acc => by
    have h := textFrom_le ts (k + 1) (acc ++ (if k > 0 then ", " else "" : String) ++ t)
    rw [len_app, len_app] at h
    have e : (((if k > 0 then ", " else "" : String) : Str)).length ≤ 2 := by split <;> decide
    rw [piled_cons]
    show (textFrom (k + 1) _ ts).length ≤ _
    omega
theorem listText_le (ts : List Str) : (listText ts).length ≤ 2 + piled ts := by
  unfold listText
  rw [len_app]
  have h := textFrom_le ts 0 "["
  have e1 : ((("[" : String) : Str)).length = 1 := by decide
  have e2 : ((("]" : String) : Str)).length = 1 := by decide
  omega
theorem tupleText_le (ts : List Str) : (tupleText ts).length ≤ 3 + piled ts := by
  unfold tupleText
  rw [len_app, len_app]
  have e1 : ((("(" : String) : Str)).length = 1 := by decide
  have e3 : (((if ts.length == 1 then ",)" else ")" : String) : Str)).length ≤ 2 := by split <;> decide
  by_cases h : ts = []
  · subst h
    have e : (Str.join ", " ([] : List Str)).length = 0 := by decide
    omega
  · have := join_length_add ts h
    omega
mutual
theorem tame_shown : ∀ d : PyData, tame d = true → d.shown.length + 3 ≤ 1010 * cnt d
  | .none, _ => by show (Str.length _) + 3 ≤ _; decide
  | .bool b, _ => by cases b <;> (show (Str.length _) + 3 ≤ _; decide)
  | .int i, h => by
    have h' : i.natAbs < 10 ^ 100 := of_decide_eq_true (by simpa [tame] using h)
    have := int_text_length_le10 (a := i) (k := 100) (by decide) h'
    have e : (PyData.shown (.int i)).length = (Str.ofString (toString i)).length := rfl
    have e2 : (Str.ofString (toString i)).length = (toString i).length := PySem.ofString_length _
    rw [e]
    show _ ≤ 1010 * 1
    omega
  | .str x, h => by
    have h' : PyData.strOk x = true ∧ x.length ≤ 100 := by simpa [tame] using h
    have := StrLaws.reprText_len x (strOk_lt h'.1)
    show (reprText x).length + 3 ≤ 1010 * 1
    omega
  | .list xs, h => by
    have h' : xs.length ≤ 10000 ∧ tames xs = true := by simpa [tame] using h
    have := tames_shown xs h'.2
    have q := listText_le (PyData.shownAll xs)
    show (listText (PyData.shownAll xs)).length + 3 ≤ 1010 * (cnts xs + 1)
    omega
  | .tuple xs, h => by
    have h' : xs.length ≤ 10000 ∧ tames xs = true := by simpa [tame] using h
    have := tames_shown xs h'.2
    have q := tupleText_le (PyData.shownAll xs)
    show (tupleText (PyData.shownAll xs)).length + 3 ≤ 1010 * (cnts xs + 1)
    omega
  | .dict _, h => by simp [tame] at h
theorem tames_shown : ∀ xs : List PyData, tames xs = true → piled (PyData.shownAll xs) ≤ 1010 * cnts xs
  | [], _ => Nat.zero_le _
  | x :: xs, h => by
    have h' : tame x = true ∧ tames xs = true := by simpa [tames] using h
    have h1 := tame_shown x h'.1
    have h2 := tames_shown xs h'.2
    show piled (x.shown :: PyData.shownAll xs) ≤ 1010 * (cnt x + cnts xs)
    rw [piled_cons]
    omega
end
mutual
theorem tame_ok : ∀ d : PyData, tame d = true → d.showable = true ∧ d.hasDict = false ∧ d.canLay0 = true
  | .none, _ => ⟨rfl, rfl, rfl⟩
  | .bool _, _ => ⟨rfl, rfl, rfl⟩
  | .int i, h => by
    have h' : i.natAbs < 10 ^ 100 := of_decide_eq_true (by simpa [tame] using h)
    refine ⟨decide_eq_true ?_, rfl, rfl⟩
    by_cases h0 : i.natAbs = 0
    · rw [h0]; decide
    · rw [Nat.log2_lt h0]
      exact Nat.lt_trans h' (by decide)
  | .str x, h => by
    have h' : PyData.strOk x = true ∧ x.length ≤ 100 := by simpa [tame] using h
    exact ⟨rfl, rfl, h'.1⟩
  | .list xs, h => by
    have h' : xs.length ≤ 10000 ∧ tames xs = true := by simpa [tame] using h
    exact tames_ok xs h'.2
  | .tuple xs, h => by
    have h' : xs.length ≤ 10000 ∧ tames xs = true := by simpa [tame] using h
    exact tames_ok xs h'.2
  | .dict _, h => by simp [tame] at h
theorem tames_ok : ∀ xs : List PyData, tames xs = true → PyData.showableAll xs = true ∧ PyData.hasDictAll xs = false ∧ PyData.canLayAll0 xs = true
  | [], _ => ⟨rfl, rfl, rfl⟩
  | x :: xs, h => by
    have h' : tame x = true ∧ tames xs = true := by simpa [tames] using h
    obtain ⟨a1, a2, a3⟩ := tame_ok x h'.1
    obtain ⟨b1, b2, b3⟩ := tames_ok xs h'.2
    exact ⟨by simp [PyData.showableAll, a1, b1], by simp [PyData.hasDictAll, a2, b2], by simp [PyData.canLayAll0, a3, b3]⟩
end
theorem tame_shaped {d : PyData} (h : tame d = true) (hd : d.depth ≤ 64) : SeqAt.shaped d = true := by
  simp [SeqAt.shaped, (tame_ok d h).2.2, hd]
theorem tame_str {d : PyData} (h : tame d = true) (hc : cnt d ≤ 16000) : d.shown.length ≤ sizeLine := by
  have := tame_shown d h
  have e : sizeLine = 16777216 := rfl
  omega
theorem tames_all : ∀ xs : List PyData, (∀ x ∈ xs, tame x = true) → tames xs = true
  | [], _ => rfl
  | x :: xs, h => by
    have h1 := h x List.mem_cons_self
    have h2 := tames_all xs fun y hy => h y (List.mem_cons_of_mem _ hy)
    simp [tames, h1, h2]
theorem cnts_le {b : Nat} : ∀ xs : List PyData, (∀ x ∈ xs, cnt x ≤ b) → cnts xs ≤ b * xs.length
  | [], _ => Nat.zero_le _
  | x :: xs, h => by
    have h1 := h x List.mem_cons_self
    have h2 := cnts_le xs fun y hy => h y (List.mem_cons_of_mem _ hy)
    simp only [cnts, List.length_cons, Nat.mul_add, Nat.mul_one]
    omega
theorem depths_le {b : Nat} : ∀ xs : List PyData, (∀ x ∈ xs, x.depth ≤ b) → PyData.depthAll xs ≤ b
  | [], _ => Nat.zero_le _
  | x :: xs, h => by
    have h1 := h x List.mem_cons_self
    have h2 := depths_le xs fun y hy => h y (List.mem_cons_of_mem _ hy)
    simp only [PyData.depthAll]
    omega
end DL

/-! ### a, *b, c = a tuple or a list -/
namespace DL
open PySem L2 PySem.Spec PyProof.Rows
section
variable {prog : Program} {w : World} {A : Around} {I : Addr} {fp wr : List Addr} {n : Nat} {P : Nat → Value → Prop} {St : Nat → Heap → Prop}
theorem walks_shift (W : Walks prog w A I fp wr n P St) (k : Nat) (hk : k ≤ n) : Walks prog w A I fp wr (n - k) (fun i v => P (k + i) v) (fun i h => St (k + i) h) where
  sub := W.sub
  frame := fun i h h' st q => W.frame (k + i) h h' st q
  item := fun i s Q E hi st hQ => W.item (k + i) s Q E (by omega) st hQ
  done := fun s Q E st hQ => W.done s Q E (by rw [show k + (n - k) = n by omega] at st; exact st) hQ
  self := fun i s Q E st hQ => W.self (k + i) s Q E st hQ
theorem draw_walk (W : Walks prog w A I fp wr n P St) {E : Value → Shared → Prop} : ∀ (k i : Nat) (s : Shared) (Q : List Value → Shared → Prop), i + k ≤ n → St i s.heap →
    (∀ vs h' tk, vs.length = k → (∀ j v, vs[j]? = some v → P (i + j) v) → St (i + k) h' → (∀ b o, b ∉ wr → s.heap.get? b = some o → h'.get? b = some o) → Q vs { s with heap := h', toks := tk }) → wpAny (model prog w) A (draw (.ref I) k) Q E s
  | 0, i, s, Q, _, st, hQ => by
    show wpAny _ _ (pure []) Q E s
    exact wpAny_pure (hQ [] s.heap s.toks rfl (fun j v h => by simp at h) st fun _ _ _ h => h)
  | k + 1, i, s, Q, hk, st, hQ => by
    show wpAny _ _ (pyNext (.ref I) >>= _) Q E s
    refine wpAny_bind (W.item i s _ _ (by omega) st fun v h1 tk1 hv st1 k1 => ?_)
    refine wpAny_bind (wpAny_holding (draw_walk W k (i + 1) _ _ (by omega) st1 fun vs h2 tk2 hl hvs st2 k2 => wpAny_pure ?_))
    refine hQ (v :: vs) h2 tk2 (by simp [hl]) ?_ (by rw [show i + (k + 1) = i + 1 + k by omega]; exact st2) fun b o hb e => k2 b o hb (k1 b o hb e)
    intro j x hx
    cases j with
    | zero => simp at hx; subst hx; exact hv
    | succ j => rw [show i + (j + 1) = i + 1 + j by omega]; exact hvs j x (by simpa using hx)
/-- behind the iterator: so many drawn, the rest collected, the middle put into a new list -/
theorem star_rest {items : Array Value} {fp1 : Addr} {T : String} {s : Shared} {E : Value → Shared → Prop} {Q : List Value → Shared → Prop} {m i : Nat} (hT : T = "list_iterator" ∨ T = "tuple_iterator")
    (W : Walks prog w A.in1 I [I, fp1] [I] items.size (fun i v => items[i]? = some v) St) (W0 : Walks prog w A I [I, fp1] [I] items.size (fun i v => items[i]? = some v) St) (ty : ∀ i (s : Shared), St i s.heap → s.TypeIs (.ref I) T) (st : St 0 s.heap)
    (hi : i < m) (hm : m - 1 ≤ items.size) (hz : items.size ≤ sizeLine)
    (ex : ∀ i (h : Heap), St i h → ∀ b ∈ [I, fp1], b < h.objs.size)
    (hQ : ∀ (h' : Heap) (tk : Nat), (∀ b o, b ≠ I → s.heap.get? b = some o → h'.get? b = some o) → ∀ mid, mid = (items.toList.drop i).take (items.size - (m - 1)) →
      Q (items.toList.take i ++ [.ref h'.objs.size] ++ items.toList.drop (items.size - (m - 1 - i))) { s with heap := h'.push { cls := .type "list", data := .seq mid.toArray }, toks := tk }) :
    wpAny (model prog w) A (do
      let first ← holding [.ref I] (draw (.ref I) i)
      if first.length < i then
        rule "unpack.star.too-few-before"
        raiseError "ValueError" s!"not enough values to unpack (expected at least {m - 1}, got {first.length})"
      let rest ← holding first (collect (.ref I))
      let after := m - 1 - i
      if rest.length < after then
        rule "unpack.star.too-few"
        raiseError "ValueError" s!"not enough values to unpack (expected at least {m - 1}, got {i + rest.length})"
      let mid := rest.length - after
      return first ++ [← newList (rest.take mid)] ++ rest.drop mid) Q E s := by
  refine wpAny_bind (wpAny_holding (draw_walk W0 i 0 s _ (by omega) st fun vs h1 tk1 hl hvs st1 k1 => ?_))
  rw [if_neg (by omega)]
  have ev : vs = items.toList.take i := by
    apply List.ext_getElem?
    intro j
    by_cases hj : j < i
    · have h2 := hvs j vs[j] (List.getElem?_eq_getElem (by omega))
      rw [Nat.zero_add] at h2
      have h3 : items.toList[j]? = some vs[j] := by rw [Array.getElem?_toList]; exact h2
      rw [List.getElem?_take_of_lt hj, h3]
      exact List.getElem?_eq_getElem (by omega)
    · rw [List.getElem?_eq_none (by omega), List.getElem?_eq_none (by rw [List.length_take]; omega)]
  rw [Nat.zero_add] at st1
  have Ws := (walks_shift W i (by omega)).toS
  refine wpAny_bind (wpAny_holding (wpAny_collect_iter (I := I) (T := T) (by rcases hT with h | h <;> simp [h]) Ws (fun j s q => ty (i + j) s q) (show St (i + 0) h1 from st1) (ex i h1 st1) (by simp) (fun s' acc hm hacc => ?_) (by omega)))
  obtain ⟨hsz, hget⟩ := hacc
  have ea : acc.toList = items.toList.drop i := by
    apply List.ext_getElem?
    intro j
    by_cases hj : j < acc.size
    · have h2 := hget j acc[j] (Array.getElem?_eq_getElem hj)
      have h3 : items.toList[i + j]? = some acc[j] := by rw [Array.getElem?_toList]; exact h2
      have h4 : acc.toList[j]? = some acc[j] := by rw [Array.getElem?_toList]; exact Array.getElem?_eq_getElem hj
      rw [List.getElem?_drop, h3, h4]
    · rw [List.getElem?_eq_none (by simpa using hj), List.getElem?_eq_none (by rw [List.length_drop, Array.length_toList]; omega)]
  rw [ea, hm.eq_with]
  have hl2 : (items.toList.drop i).length = items.size - i := by rw [List.length_drop, Array.length_toList]
  rw [hl2, if_neg (by omega)]
  refine wpAny_bind (wpAny_newList ?_ (by rw [List.length_take, hl2]; omega))
  refine wpAny_pure ?_
  have q := hQ s'.heap s'.toks (fun b o hb e => hm.heap b o (by simpa using hb) (k1 b o (by simpa using hb) e)) _ rfl
  rw [ev]
  have e1 : items.size - i - (m - 1 - i) = items.size - (m - 1) := by omega
  have e2 : (items.toList.drop i).drop (items.size - (m - 1)) = items.toList.drop (items.size - (m - 1 - i)) := by
    rw [List.drop_drop]; congr 1; omega
  rw [e1, e2]
  exact q
end
section
variable {X : Cx}
/-- a list's or a tuple's items, by their kinds -/
theorem unpack_star {pins : List (Addr × Obj)} {σ : L2.St} {H : Hp} {s : Shared} {a : Addr} {xs : List V} {m i : Nat} {E : Value → Shared → Prop} {Q : List Value → Shared → Prop} (I0 : Inv X pins σ H s) (hc : X.calm = true) (h : SqT X.K H a xs ∨ SqL X.K H a xs)
    (hi : i < m) (hm : m - 1 ≤ xs.length)
    (hQ : ∀ (us : List Value) (s' : Shared) (L : Addr), H L = none → Inv X pins σ (upd H L (.lst ((xs.drop i).take (xs.length - (m - 1))))) s' → Vals (xs.take i ++ [.ref L] ++ xs.drop (xs.length - (m - 1 - i))) us → Q us s') :
    wpAny (model X.prog X.w) X.A (unpackItems (.ref a) m (some i)) Q E s := by
  have hh := I0.ok.hd hc
  have fin : ∀ (its : List Value) (o : Obj), Vals xs its → xs.length ≤ sizeLine → ∀ (h' : Heap) (tk : Nat), (∀ b u, b ≠ s.heap.objs.size → (s.heap.push o).get? b = some u → h'.get? b = some u) → ∀ mid, mid = (its.toArray.toList.drop i).take (its.toArray.size - (m - 1)) →
      Q (its.toArray.toList.take i ++ [.ref h'.objs.size] ++ its.toArray.toList.drop (its.toArray.size - (m - 1 - i))) { s with heap := h'.push { cls := .type "list", data := .seq mid.toArray }, toks := tk } := by
    intro its o rv hz h' tk hk mid em
    subst em
    have hl := rv.length
    have hsz : its.toArray.size = xs.length := by rw [List.size_toArray, hl]
    have htl : its.toArray.toList = its := by simp
    rw [hsz, htl]
    have I1 : Inv X pins σ H { s with heap := h', toks := tk } := I0.kept fun b u e => hk b u (Nat.ne_of_lt (Heap.lt_size e)) (Heap.get?_push_of_some _ e)
    have hf : H h'.objs.size = none := I1.hok.fresh (Nat.le_refl _)
    refine hQ _ _ h'.objs.size hf (I1.laid (t' := tk) (fun b u e => Heap.get?_push_of_some _ e) (Nat.le_refl _) ?_) (((rv.take i).append (show Vals [V.ref h'.objs.size] [Value.ref h'.objs.size] from .cons rfl .nil)).append (rv.drop _))
    exact ⟨by rw [List.length_take, List.length_drop]; omega, _, 0, (rv.drop i).take _, Heap.get?_push_size _ rfl⟩
  rcases h with h | h
  · obtain ⟨its, rv, ht, hz⟩ := I0.tuple h
    have hne : a ≠ s.heap.objs.size := by obtain ⟨o, ho, _⟩ := ht; exact Nat.ne_of_lt (Heap.lt_size ho)
    have hsz : its.toArray.size = xs.length := by rw [List.size_toArray, rv.length]
    unfold unpackItems
    refine wpAny_bind ?_
    unfold notIterableAtAll
    refine wpAny_bind (wpAny_specialOf ht.typeIs F.slot_tuple_iter.lookup ?_)
    refine wpAny_pure ?_
    simp only [Bool.false_eq_true, if_false]
    refine wpAny_bind (wpAny_holding (wpAny_pyIter_tuple ht ?_))
    refine star_rest (T := "tuple_iterator") (.inr rfl) (Walks.tuple (A := X.A.in1) hh s.heap.objs.size a hne its.toArray) (Walks.tuple hh s.heap.objs.size a hne its.toArray) (fun i s q => q.1.typeIs) ⟨⟨_, Heap.get?_push_size _ rfl, rfl, rfl⟩, IsTup.push ht _⟩ hi (by omega) (by omega) ?_ (fin its _ rv hz)
    rintro i h ⟨⟨o1, q1, _⟩, ⟨o2, q2, _⟩⟩ b hb
    simp at hb
    rcases hb with rfl | rfl
    · exact Heap.lt_size q1
    · exact Heap.lt_size q2
  · obtain ⟨its, rv, pl, hz⟩ := I0.list h
    have ht := pl.isList
    have hne : a ≠ s.heap.objs.size := by obtain ⟨o, ho, _⟩ := ht; exact Nat.ne_of_lt (Heap.lt_size ho)
    have hsz : its.toArray.size = xs.length := by rw [List.size_toArray, rv.length]
    unfold unpackItems
    refine wpAny_bind ?_
    unfold notIterableAtAll
    refine wpAny_bind (wpAny_specialOf ht.typeIs F.slot_list_iter.lookup ?_)
    refine wpAny_pure ?_
    simp only [Bool.false_eq_true, if_false]
    refine wpAny_bind (wpAny_holding (wpAny_pyIter_list ht ?_))
    refine star_rest (T := "list_iterator") (.inl rfl) (Walks.list (A := X.A.in1) hh s.heap.objs.size a hne its.toArray) (Walks.list hh s.heap.objs.size a hne its.toArray) (fun i s q => q.1.typeIs) ⟨⟨_, Heap.get?_push_size _ rfl, rfl, rfl⟩, ?_⟩ hi (by omega) (by omega) ?_ (fin its _ rv hz)
    · obtain ⟨o, ho, r⟩ := ht
      exact ⟨o, Heap.get?_push_of_some _ ho, r⟩
    · rintro i h ⟨⟨o1, q1, _⟩, ⟨o2, q2, _⟩⟩ b hb
      simp at hb
      rcases hb with rfl | rfl
      · exact Heap.lt_size q1
      · exact Heap.lt_size q2
/-- *a among the targets -/
theorem pgs_star {e : Expr} {es : List Expr} {p : Pos} {t : TG} {u : TGs} (h1 : PG X e t) (h2 : PGs X es u) : PGs X (.Starred e p :: es) (gCons t u) := by
  constructor
  intro pins s σ H vs us Q I r h
  obtain ⟨v, vr, rfl, h⟩ := h
  cases r with
  | cons r rr =>
    show wpAny _ _ (assignInOrder (assign e X.env :: (assignEach es X.env).map (·.2)) _) _ _ _
    exact assignInOrder_cons (thn (h1.run pins s σ H _ _ _ I r h) fun _ s1 ⟨σ1, H1, I1, q1⟩ => h2.run pins s1 σ1 H1 _ _ Q I1 rr q1)
/-- (a, *b, c): m targets, the i-th starred -/
def gStar (K : PySem.W.Frag) (m i : Nat) (t : TGs) : TG := fun v σ H Q => ∃ a xs, v = .ref a ∧ (SqT K H a xs ∨ SqL K H a xs) ∧ m - 1 ≤ xs.length ∧ ∀ L, H L = none → t (xs.take i ++ [.ref L] ++ xs.drop (xs.length - (m - 1 - i))) σ (upd H L (.lst ((xs.drop i).take (xs.length - (m - 1))))) Q
theorem pg_star {es : List Expr} {k : Nat} {t : TGs} {m i : Nat} {pos : Pos} (hc : X.calm = true) (h : PGs X es t) (hi : i < m) (hn : (assignEach es X.env).length = m := by rfl) (hs : (assignEach es X.env).findIdx? (·.1) = some i := by rfl) : PG X (.Tuple es k pos) (gStar X.K m i t) := by
  constructor
  rintro pins s σ H v u Q I r ⟨a, xs, rfl, hq, hl, hw⟩
  cases r
  rw [PyProof.Rows.assign_Tuple]
  refine wpAny_bind (wpAny_standAt ?_)
  unfold unpack
  rw [hn, hs]
  exact wpAny_bind (wpAny_holding (unpack_star I hc hq hi hl fun us s' L hL I1 rv => h.run pins s' σ _ _ us Q I1 rv (hw L hL)))
end
/-- (a, *b, c) = data: the starred one a new list of data, or a cell -/
def seqD (M : List Ob) (u : U) : Option (List PyData) := match view M u with
  | some (.list ds) => some ds
  | some (.tuple ds) => some ds
  | _ => none
theorem seqD_ok {K : PySem.W.Frag} {w : Wd} {M : List Ob} {H : Hp} {u : U} {v : V} {ds : List PyData} (h : Hold w M H) (r : RU w u v) (e : seqD M u = some ds) : ∃ a vs, v = .ref a ∧ (SqT K H a vs ∨ SqL K H a vs) ∧ RpL w.F ds vs := by
  unfold seqD at e
  cases q : view M u with
  | none => rw [q] at e; cases e
  | some d =>
    rw [q] at e
    have vo := view_ok h r q
    cases d with
    | list es =>
      cases e
      obtain ⟨p, vs, rfl, hp, rr⟩ := vo
      exact ⟨p, vs, rfl, .inr (SqL.of hp), rr⟩
    | tuple es =>
      cases e
      obtain ⟨p, vs, rfl, hp, rr, _⟩ := vw_tup h.sub vo
      exact ⟨p, vs, rfl, .inl (SqT.of hp), rr⟩
    | _ => cases e
def wgStar (m i : Nat) (wr : WGs) : WG := fun u ρ M Q => ∃ ds, seqD M u = some ds ∧ m - 1 ≤ ds.length ∧ wr ((ds.take i).map U.d ++ [.d (.list ((ds.drop i).take (ds.length - (m - 1))))] ++ (ds.drop (ds.length - (m - 1 - i))).map U.d) ρ M Q
theorem lg_star {K : PySem.W.Frag} {m i : Nat} {gr : TGs} {wr : WGs} (hr : LGs gr wr) : LG (gStar K m i gr) (wgStar m i wr) := fun w M H σ ρ u v Qu Q h e r hq o => by
  obtain ⟨ds, e1, hl, q⟩ := hq
  obtain ⟨a, vs, rfl, ha, rs⟩ := seqD_ok (K := K) h r e1
  have el := rs.length
  refine ⟨a, vs, rfl, ha, by omega, fun L hL => ?_⟩
  have sm : Same w.F (w.put L (.lst ((vs.drop i).take (vs.length - (m - 1))))).F := same_put (h.newF hL)
  have h1 := h.put (o := .lst ((vs.drop i).take (vs.length - (m - 1)))) hL
  have s1 : Step w H _ _ := Step.put (o := .lst ((vs.drop i).take (vs.length - (m - 1)))) h hL
  refine hr h1 (e.grow s1.grow) ?_ q (o.trans s1 h1)
  rw [el]
  exact rus_app (rus_app (RUs.of ((rs.take i).mono sm)) (.cons (RU.D (.lst Wd.putF (((rs.drop i).take (vs.length - (m - 1))).mono sm))) .nil)) (RUs.of ((rs.drop _).mono sm))
end DL

/-! ### f-strings, str of ints -/
namespace DL
open PySem L2
/-- an int's text -/
def itx (i : Int) : Str := toString i
def fFmt : PyData → Option (Str × Prop)
  | .str y => some (y, y.length ≤ sizeLine)
  | .int i => some (itx i, i.natAbs.log2 < 1920)
  | _ => none
def wFmt (we : WE) : WE := fun ρ M Q => we ρ M fun x M1 => ∃ d z C, view M1 x = some d ∧ fFmt d = some (z, C) ∧ C ∧ Q (.d (.str z)) M1
theorem le_fmt {te : TE} {we : WE} (he : LE te we) : LE (tFmt te) (wFmt we) := fun _ _ _ _ _ _ _ h e hq o =>
  he h e hq fun x M1 v w1 H1 s1 h1 r1 q1 => by
    obtain ⟨d, z, C, hv, hz, hC, q⟩ := q1
    have vo := view_ok h1 r1 hv
    have o1 := o.trans s1 h1
    cases d with
    | str y =>
      cases hz
      exact .inl ⟨_, vw_str vo, hC, o1.here h1 (RU.D (.str _)) q⟩
    | int i =>
      cases hz
      exact .inr ⟨i, vw_int vo, hC, o1.here h1 (RU.D (.str _)) q⟩
    | _ => cases hz
def wJs : List WE → Str → Rho → List Ob → (Str → List Ob → Prop) → Prop
  | [], acc, _, M, Q => Q acc M
  | w :: ws, acc, ρ, M, Q => w ρ M fun x M1 => ∃ y, x = .d (.str y) ∧ (acc ++ y).length ≤ sizeLine ∧ wJs ws (acc ++ y) ρ M1 Q
abbrev LJ : List TE → List WE → Prop := Paired LE
theorem lj_nil : LJ [] [] := .nil
theorem lj_cons {t : TE} {w : WE} {ts : List TE} {ws : List WE} (h : LE t w) (r : LJ ts ws) : LJ (t :: ts) (w :: ws) := .cons h r
theorem js_ok {ts : List TE} {ws : List WE} (l : LJ ts ws) : ∀ {w : Wd} {M : List Ob} {H : Hp} {σ : L2.St} {ρ : Rho} {acc : Str} {Qp : Str → List Ob → Prop} {N : Str → Hp → Prop}, Hold w M H → Env w σ ρ → wJs ws acc ρ M Qp →
    (∀ z M' w' H', Step w H w' H' → Hold w' M' H' → Qp z M' → N z H') → tJs ts acc σ H N := by
  induction l with
  | nil => intro w M H σ ρ acc Qp N h e hq o; exact o acc M w H (Step.refl w H) h hq
  | @cons t w1 ts ws hl _ ih =>
    intro w M H σ ρ acc Qp N h e hq o
    refine hl h e hq fun x M1 v w1 H1 s1 h1 r1 q1 => ?_
    obtain ⟨y, hx, hz, q⟩ := q1
    subst hx
    have ev : v = .str y := by
      have r2 : Rp w1.F (.str y) v := r1
      cases r2
      rfl
    exact ⟨y, ev, hz, ih h1 (e.grow s1.grow) q fun z M' w' H' s2 h2 q2 => o z M' w' H' (s1.trans h1 s2) h2 q2⟩
def wJoined (ws : List WE) : WE := fun ρ M Q => wJs ws Str.empty ρ M fun out M1 => Q (.d (.str out)) M1
theorem le_joined {ts : List TE} {ws : List WE} (l : LJ ts ws) : LE (fun σ H Q => tJs ts Str.empty σ H fun out H1 => Q (.str out) H1) (wJoined ws) := fun _ _ _ _ _ _ _ h e hq o =>
  js_ok l h e hq fun z M' w' H' s h' q => o _ _ _ _ _ s h' (RU.D (.str _)) q
/-- str of an int -/
def rStrI : List V → Hp → VK → Prop := fun xs H Q => ∃ i : Int, xs = [.int i] ∧ i.natAbs.log2 < 1920 ∧ Q (.str (toString i)) H
theorem call_strI {X : Cx} : CallR X (.type "str") rStrI := call_str_int
def wStrI : List U → List Ob → (U → List Ob → Prop) → Prop := fun us M Q => ∃ u i, us = [u] ∧ view M u = some (.int i) ∧ i.natAbs.log2 < 1920 ∧ Q (.d (.str (itx i))) M
theorem lc_strI : LC rStrI wStrI := fun w M H x vx Qu Q h rx hq o => by
  obtain ⟨u, i, rfl, hv, h1, q⟩ := hq
  obtain ⟨v, rfl, r⟩ := rus1 rx
  exact ⟨i, by rw [vw_int (view_ok h r hv)], h1, o.here h (RU.D (.str _)) q⟩
end DL

/-! ### what the top has written: tuples and dicts of words, defaults -/
namespace DL
open PySem L2
theorem absV_rel : ∀ {u : Value} {v : V}, absV u = some v → RelV v u
  | .none, _, h => by cases h; exact rfl
  | .bool _, _, h => by cases h; exact rfl
  | .int _ t, _, h => by cases h; exact ⟨t, rfl⟩
  | .str _ t, _, h => by cases h; exact ⟨t, rfl⟩
  | .bytes _ t, _, h => by cases h; exact ⟨t, rfl⟩
  | .float _ t, _, h => by cases h; exact ⟨t, rfl⟩
  | .ref _, _, h => by cases h; exact rfl
  | .type _, _, h => by cases h; exact rfl
theorem vals_abs : ∀ {us : List Value} {vs : List V}, us.map absV = vs.map some → Vals vs us
  | [], [], _ => .nil
  | [], _ :: _, h => by cases h
  | _ :: _, [], h => by cases h
  | u :: us, v :: vs, h => by
    rw [List.map_cons, List.map_cons] at h
    injection h with h1 h2
    exact .cons (absV_rel h1) (vals_abs h2)
/-- at a: a tuple of the words -/
def WrT (K : PySem.W.Frag) (a : Addr) (ss : List Str) : Prop := ∃ (o : Obj) (its : Array Value) (n : Nat), K.lookup a = some o ∧ o.cls = .type "tuple" ∧ o.data = .seq its n ∧ its.size ≤ sizeLine ∧ Vals (ss.map V.str) its.toList
theorem wrT_mk {K : PySem.W.Frag} {a : Addr} {od : Option Addr} {its : Array Value} {n : Nat} {sl : Array (Option Value)} {ss : List Str} (l : K.lookup a = some ⟨.type "tuple", od, .seq its n, sl⟩) (q : its.toList.map absV = (ss.map V.str).map some) (h : ss.length ≤ 1000) : WrT K a ss := by
  refine ⟨_, its, n, l, rfl, rfl, ?_, vals_abs q⟩
  have e := congrArg List.length q
  simp only [List.length_map, Array.length_toList] at e
  have hsl : 1000 ≤ sizeLine := by decide
  omega
theorem inV_s (z : Str) : ∀ ss : List Str, inV (.str z) (ss.map V.str) = decide (z ∈ ss)
  | [] => rfl
  | s :: ss => by
    have ih := inV_s z ss
    unfold inV at ih ⊢
    rw [List.map_cons, List.any_cons, ih, Bool.eq_iff_iff]
    have e : eqV (.str s) (.str z) = (s == z) := rfl
    rw [e]
    simp only [Bool.or_eq_true, decide_eq_true_eq, List.mem_cons, beq_iff_eq]
    exact ⟨fun h => h.imp Eq.symm id, fun h => h.imp Eq.symm id⟩
theorem flat_s (ss : List Str) : (ss.map V.str).all flatV = true := by
  rw [List.all_eq_true]
  intro x hx
  obtain ⟨s, _, rfl⟩ := List.mem_map.mp hx
  rfl
/-- z in the written words -/
def wHas (a : Addr) (ss : List Str) : R2' := fun x y M Q => y = .v (.ref a) ∧ ∃ z, view M x = some (.str z) ∧ Q (.d (.bool (decide (z ∈ ss)))) M
def wHasnt (a : Addr) (ss : List Str) : R2' := fun x y M Q => y = .v (.ref a) ∧ ∃ z, view M x = some (.str z) ∧ Q (.d (.bool (!decide (z ∈ ss)))) M
theorem lr_inT {K : PySem.W.Frag} {a : Addr} {ss : List Str} (h : WrT K a ss) : LR (rIn K false) (wHas a ss) := fun w M H x y vx vy Qu Q hh rx ry hq o => by
  obtain ⟨rfl, z, ez, q⟩ := hq
  have ey : vy = .ref a := ry
  subst ey
  have ex := vw_str (view_ok hh rx ez)
  subst ex
  refine ⟨a, ss.map V.str, rfl, .inr (.inr h), rfl, flat_s ss, ?_⟩
  show Q (.bl (inV (.str z) (ss.map V.str))) H
  rw [inV_s]
  exact o.here hh (RU.D (.bl _)) q
theorem lr_notInT {K : PySem.W.Frag} {a : Addr} {ss : List Str} (h : WrT K a ss) : LR (rIn K true) (wHasnt a ss) := fun w M H x y vx vy Qu Q hh rx ry hq o => by
  obtain ⟨rfl, z, ez, q⟩ := hq
  have ey : vy = .ref a := ry
  subst ey
  have ex := vw_str (view_ok hh rx ez)
  subst ex
  refine ⟨a, ss.map V.str, rfl, .inr (.inr h), rfl, flat_s ss, ?_⟩
  show Q (.bl (!inV (.str z) (ss.map V.str))) H
  rw [inV_s]
  exact o.here hh (RU.D (.bl _)) q
theorem x_inS {X : Cx} {K : PySem.W.Frag} (h : X.K = K) : OpR X (compareOp .In) (rIn K false) := h ▸ op_in_seq
theorem x_notInS {X : Cx} {K : PySem.W.Frag} (h : X.K = K) : OpR X (compareOp .NotIn) (rIn K true) := h ▸ op_notIn_seq
/-! a dict of words to ints -/
def wordOf : Value → Option Str
  | .str s _ => some s
  | _ => none
def kv (e : DictEntry) : Option Str × Option V := (wordOf e.key, absV e.val)
def WrDg {α : Type} (cv : α → V) (K : PySem.W.Frag) (w : World) (a : Addr) (kvs : List (Str × α)) : Prop := ∃ es n, KDict K w a es n ∧ es.toList.map kv = kvs.map fun p => (some p.1, some (cv p.2))
abbrev WrD : PySem.W.Frag → World → Addr → List (Str × Int) → Prop := WrDg V.int
abbrev WrDs : PySem.W.Frag → World → Addr → List (Str × Str) → Prop := WrDg V.str
theorem wrD_mk {α : Type} {cv : α → V} {K : PySem.W.Frag} {w : World} {a : Addr} {es : Array DictEntry} {n : Nat} {kvs : List (Str × α)} (l : K.lookup a = some ⟨.type "dict", none, .dict es n, #[]⟩) (k : PySem.W.KeysLit w.params es.toList) (low : (a == sysModules) = false)
    (q : es.toList.map kv = kvs.map fun p => (some p.1, some (cv p.2))) : WrDg cv K w a kvs := ⟨es, n, ⟨l, k, low⟩, q⟩
theorem word_key {v : Value} {s : Str} (h : wordOf v = some s) : ∃ t, v = .str s t := by
  cases v <;> first | (cases h; exact ⟨_, rfl⟩) | cases h
theorem find_kv {α : Type} {cv : α → V} (z : Str) : ∀ {es : List DictEntry} {kvs : List (Str × α)}, es.map kv = kvs.map (fun p => (some p.1, some (cv p.2))) →
    es.any (·.refKey) = false ∧ (∀ i, kvs.lookup z = some i → ∃ e, es.find? (·.key.isStr z) = some e ∧ RelV (cv i) e.val) ∧ (kvs.lookup z = none → es.find? (·.key.isStr z) = none)
  | [], [], _ => ⟨rfl, fun i h => (by cases h), fun _ => rfl⟩
  | [], _ :: _, h => by cases h
  | _ :: _, [], h => by cases h
  | e :: es, (k, i) :: kvs, h => by
    rw [List.map_cons, List.map_cons] at h
    injection h with h1 h2
    obtain ⟨h3, h4⟩ := Prod.mk.inj h1
    obtain ⟨t, h5⟩ := word_key h3
    obtain ⟨a1, a2, a3⟩ := find_kv z h2
    have hk : e.key.isStr z = (k == z) := by rw [h5]; rfl
    refine ⟨?_, fun j hj => ?_, fun hj => ?_⟩
    · rw [List.any_cons, a1]
      have : e.refKey = false := by unfold DictEntry.refKey; rw [h5]
      rw [this]; rfl
    · rw [List.lookup_cons] at hj
      by_cases hz : k = z
      · subst hz
        rw [beq_self_eq_true] at hj
        cases hj
        exact ⟨e, by rw [List.find?_cons, hk, beq_self_eq_true], absV_rel h4⟩
      · have e1 : (z == k) = false := by simpa using fun q : z = k => hz q.symm
        have e2 : (k == z) = false := by simpa using hz
        rw [e1] at hj
        obtain ⟨e', b1, b2⟩ := a2 j hj
        exact ⟨e', by rw [List.find?_cons, hk, e2]; exact b1, b2⟩
    · rw [List.lookup_cons] at hj
      by_cases hz : k = z
      · subst hz
        rw [beq_self_eq_true] at hj
        cases hj
      · have e1 : (z == k) = false := by simpa using fun q : z = k => hz q.symm
        have e2 : (k == z) = false := by simpa using hz
        rw [e1] at hj
        rw [List.find?_cons, hk, e2]; exact a3 hj
theorem wrD_at {α : Type} {cv : α → V} {K : PySem.W.Frag} {w : World} {a : Addr} {kvs : List (Str × α)} (h : WrDg cv K w a kvs) (z : Str) : ∃ r, PySem.W.nsIn K a z = some r ∧ r.isSome = (kvs.lookup z).isSome ∧ ∀ i, kvs.lookup z = some i → ∃ u, r = some u ∧ RelV (cv i) u := by
  obtain ⟨es, n, D, q⟩ := h
  obtain ⟨a1, a2, a3⟩ := find_kv z q
  unfold PySem.W.nsIn
  rw [D.at_]
  dsimp only
  cases e : kvs.lookup z with
  | none => rw [a3 e]; dsimp only; rw [a1]; exact ⟨none, rfl, rfl, fun i h => (by cases h)⟩
  | some i =>
    obtain ⟨e', b1, b2⟩ := a2 i e
    rw [b1]
    exact ⟨some e'.val, rfl, rfl, fun j h => (by cases h; exact ⟨_, rfl, b2⟩)⟩
def rKd (K : PySem.W.Frag) (a : Addr) : R2 := fun x y H Q => ∃ (z : Str) (r : Option Value), x = .str z ∧ y = .ref a ∧ PySem.W.nsIn K a z = some r ∧ Q (.bl r.isSome) H
def rKdN (K : PySem.W.Frag) (a : Addr) : R2 := fun x y H Q => ∃ (z : Str) (r : Option Value), x = .str z ∧ y = .ref a ∧ PySem.W.nsIn K a z = some r ∧ Q (.bl (!r.isSome)) H
theorem x_inKd {α : Type} {cv : α → V} {X : Cx} {K : PySem.W.Frag} {w : World} {a : Addr} {kvs : List (Str × α)} (h : X.K = K) (hw : X.w = w) (D : WrDg cv K w a kvs) : OpR X (compareOp .In) (rKd K a) := by
  subst h; subst hw
  obtain ⟨es, n, D, _⟩ := D
  exact op_in_kd D
theorem x_notInKd {α : Type} {cv : α → V} {X : Cx} {K : PySem.W.Frag} {w : World} {a : Addr} {kvs : List (Str × α)} (h : X.K = K) (hw : X.w = w) (D : WrDg cv K w a kvs) : OpR X (compareOp .NotIn) (rKdN K a) := by
  subst h; subst hw
  obtain ⟨es, n, D, _⟩ := D
  exact op_notIn_kd D
def wHasD (a : Addr) {α : Type} (kvs : List (Str × α)) : R2' := fun x y M Q => y = .v (.ref a) ∧ ∃ z, view M x = some (.str z) ∧ Q (.d (.bool (kvs.lookup z).isSome)) M
def wHasntD (a : Addr) {α : Type} (kvs : List (Str × α)) : R2' := fun x y M Q => y = .v (.ref a) ∧ ∃ z, view M x = some (.str z) ∧ Q (.d (.bool (!(kvs.lookup z).isSome))) M
theorem lr_inKd {α : Type} {cv : α → V} {K : PySem.W.Frag} {w : World} {a : Addr} {kvs : List (Str × α)} (D : WrDg cv K w a kvs) : LR (rKd K a) (wHasD a kvs) := fun w M H x y vx vy Qu Q hh rx ry hq o => by
  obtain ⟨rfl, z, ez, q⟩ := hq
  have ey : vy = .ref a := ry
  subst ey
  have ex := vw_str (view_ok hh rx ez)
  subst ex
  obtain ⟨r, h1, h2, _⟩ := wrD_at D z
  refine ⟨z, r, rfl, rfl, h1, ?_⟩
  rw [h2]
  exact o.here hh (RU.D (.bl _)) q
theorem lr_notInKd {α : Type} {cv : α → V} {K : PySem.W.Frag} {w : World} {a : Addr} {kvs : List (Str × α)} (D : WrDg cv K w a kvs) : LR (rKdN K a) (wHasntD a kvs) := fun w M H x y vx vy Qu Q hh rx ry hq o => by
  obtain ⟨rfl, z, ez, q⟩ := hq
  have ey : vy = .ref a := ry
  subst ey
  have ex := vw_str (view_ok hh rx ez)
  subst ex
  obtain ⟨r, h1, h2, _⟩ := wrD_at D z
  refine ⟨z, r, rfl, rfl, h1, ?_⟩
  rw [h2]
  exact o.here hh (RU.D (.bl _)) q
/-- D[z] -/
def wGetD (a : Addr) (kvs : List (Str × Int)) : R2' := fun x y M Q => x = .v (.ref a) ∧ ∃ z i, view M y = some (.str z) ∧ kvs.lookup z = some i ∧ Q (.d (.int i)) M
theorem x_ixKd {X : Cx} {K : PySem.W.Frag} {w : World} (h : X.K = K) (hw : X.w = w) : IxR X (rIxD K w) := by
  subst h; subst hw; exact ix_kdict
theorem lr_getKd {K : PySem.W.Frag} {w : World} {a : Addr} {kvs : List (Str × Int)} (D : WrD K w a kvs) : LR (rIxD K w) (wGetD a kvs) := fun w M H x y vx vy Qu Q hh rx ry hq o => by
  obtain ⟨rfl, z, i, ez, hi, q⟩ := hq
  have ex : vx = .ref a := rx
  subst ex
  have ey := vw_str (view_ok hh ry ez)
  subst ey
  obtain ⟨r, h1, h2, h3⟩ := wrD_at D z
  obtain ⟨u, rfl, ru⟩ := h3 i hi
  obtain ⟨es, n, D, _⟩ := D
  exact ⟨a, z, .int i, rfl, rfl, ⟨es, n, u, D.at_, D.lit, h1, ru⟩, o.here hh (RU.D (.int _)) q⟩
def wGetS (a : Addr) (kvs : List (Str × Str)) : R2' := fun x y M Q => x = .v (.ref a) ∧ ∃ z i, view M y = some (.str z) ∧ kvs.lookup z = some i ∧ Q (.d (.str i)) M
theorem lr_getKs {K : PySem.W.Frag} {w : World} {a : Addr} {kvs : List (Str × Str)} (D : WrDs K w a kvs) : LR (rIxD K w) (wGetS a kvs) := fun w M H x y vx vy Qu Q hh rx ry hq o => by
  obtain ⟨rfl, z, i, ez, hi, q⟩ := hq
  have ex : vx = .ref a := rx
  subst ex
  have ey := vw_str (view_ok hh ry ez)
  subst ey
  obtain ⟨r, h1, h2, h3⟩ := wrD_at D z
  obtain ⟨u, rfl, ru⟩ := h3 i hi
  obtain ⟨es, n, D, _⟩ := D
  exact ⟨a, z, .str i, rfl, rfl, ⟨es, n, u, D.at_, D.lit, h1, ru⟩, o.here hh (RU.D (.str _)) q⟩
/-! ### a def with defaults -/
section
open PySem.Spec PyProof.Rows
variable {P : Program} {w : World} {K : PySem.W.Frag} {mg : Str → Option Value} {base : Heap} {x qual : Str} {st : Stmt} {dvs : List V} {f : Addr} {fd : FuncData}
abbrev FunF (K : PySem.W.Frag) (x qual : Str) (st : Stmt) (dvs : List V) (f : Addr) (fd : FuncData) : Prop := FunD K x qual (defArgs st) (defBody st) (defScope st) dvs [] f fd
theorem funF_mk {oc : Value} {od an : Option Addr} {osl : Array (Option Value)} {kV doc pm cdv ct : Value} {T : Addr} {tc : Value} {td : Option Addr} {its : Array Value} {n : Nat} {tl : Array (Option Value)} (l : K.lookup f = some ⟨oc, od, .func (PySem.W.fnOf x qual (defArgs st) (defBody st) (defScope st) (.ref T) kV doc pm an cdv ct), osl⟩)
    (lT : K.lookup T = some ⟨tc, td, .seq its n, tl⟩) (q : its.toList.map absV = dvs.map some) (hd : dvs ≠ [])
    (c : PySem.W.codeIn K cdv qual = true) (k : PySem.W.keepIn K (.ref f) = true) : FunF K x qual st dvs f (PySem.W.fnOf x qual (defArgs st) (defBody st) (defScope st) (.ref T) kV doc pm an cdv ct) :=
  ⟨⟨oc, od, .ref T, kV, doc, pm, an, cdv, ct, osl, rfl, l, c, .inr ⟨hd, T, _, its.toList, n, rfl, lT, by simp, vals_abs q⟩, .inl rfl⟩, k⟩
theorem okF {N ps : List Str} {k : Nat} {sp : Sp} (F : FunF K x qual st dvs f fd) (S : FnScope N ps (defScope st)) (len : ∀ vs H Q E, sp vs H Q E → vs.length = ps.length)
    (hb : ∀ (cdv : Value) (A : Around) (outer : List PySem.Env) (s : Shared) (H : Hp) (vs : List V) (Q : VK) (E : XK), Room k (A.deeper (envOfC qual (defScope st) s.heap.objs.size f cdv)) → sp vs H Q E →
      ∃ t, PSs (cxOf CX0 P w K mg base N qual (defScope st) f cdv A outer s H E).nox (defBody st) t ∧ t { nx := fun _ H' => Q .non H', rt := Q } (start N vs) H) : FnOk P w K mg base CX0 (k + 1) f fd ps sp := by
  refine FunD.ok F S len fun cdv A outer s H vs Q E hr hsp => ?_
  obtain ⟨t, h1, h2⟩ := hb cdv A outer s H vs Q E hr hsp
  exact ⟨t, h1.nox, h2⟩
theorem okFG {N ps : List Str} {k : Nat} {sp : Sp} (F : FunF K x qual st dvs f fd) (S : FnScope N ps (defScope st)) (hn : ∀ vs H Q E, sp vs H Q E → vs.length = ps.length)
    (hb : ∀ (cdv : Value) (A : Around) (fr : List PySem.Env) (s : Shared) (H : Hp) (vs : List V) (Q : VK) (E : XK), Calm (A.deeper (envOfC qual (defScope st) s.heap.objs.size f cdv)) → Room k (A.deeper (envOfC qual (defScope st) s.heap.objs.size f cdv)) → sp vs H Q E →
      ∃ t, PSs (cxOf CX0 P w K mg base N qual (defScope st) f cdv A fr s H E).nox (defBody st) t ∧ t { nx := fun _ H' => Q .non H', rt := Q } (start N vs) H) : GnOk P w K mg base CX0 (k + 1) f fd ps sp := by
  obtain ⟨oc, od, dV, kV, doc, pm, an, cdv, ct, osl, rfl, hl, hc, _, _⟩ := F.ex
  refine gn_of hl hc S hn fun A fr s H vs Q E cm rm hsp => ?_
  obtain ⟨t, h1, h2⟩ := hb cdv A fr s H vs Q E cm rm hsp
  exact ⟨t, h1.nox, h2⟩
/-- all given -/
theorem FunF.all {ps : List Str} (F : FunF K x qual st dvs f fd) (hd : dvs ≠ [])
    (h : ∀ (T : Addr) (kV doc pm : Value) (an : Option Addr) (cdv ct : Value) (us its : List Value), us.length = ps.length → its.length = dvs.length →
      ∃ k, bindArgs (PySem.W.fnOf x qual (defArgs st) (defBody st) (defScope st) (.ref T) kV doc pm an cdv ct) ⟨us, []⟩ = seqItems? (.ref T) >>= k ∧ k (some its.toArray) = pure (ps.zip us)) : Binds K fd ps [] := by
  obtain ⟨ds, r, b⟩ := FunD.binds1 (ps := ps) F ps.length dvs.length hd (by omega) fun T kV doc pm an cdv ct us its l1 l2 => by
    obtain ⟨k, e1, e2⟩ := h T kV doc pm an cdv ct us its l1 l2
    exact ⟨k, e1, by rw [e2, ← l2, List.drop_length, List.append_nil]⟩
  rw [List.drop_length] at r
  cases r
  exact b
end
end DL

/-! ### dict.update, sum of ints, in of a tuple of tuples -/
namespace DL
open PySem L2
section
open PySem.Spec PyProof.Rows
variable {X : Cx}
def rUpd : V → List V → Hp → VK → Prop := fun x vs H Q => ∃ (a b : Addr) (kvs more : List (Key × V)), x = .ref a ∧ vs = [.ref b] ∧ a ≠ b ∧ H a = some (.dK kvs) ∧ H b = some (.dK more) ∧ kvs.length + more.length ≤ sizeLine ∧ Q .non (upd H a (.dK (mergeK kvs more)))
theorem x_update : MtR X "dict.update" rUpd := by
  intro pins s σ H x vs v us Q I rx rv h
  obtain ⟨a, b, kvs, more, rfl, rfl, hne, e1, e2, hz, q⟩ := h
  obtain rfl : v = Value.ref a := rx
  cases rv with
  | cons r t =>
    cases t
    cases r
    obtain ⟨z1, d1, vs1, rel1, dd1⟩ := dk_of I.hok e1
    obtain ⟨z2, d2, vs2, rel2, dd2⟩ := dk_of I.hok e2
    refine call_meetsIn PySem.F.slot_dict_update dd1.typeIs PySem.F.entry_dict_update (PySem.F.args_dict_update_2 _ _) (meets_dict_update (mixKind X.prog X.w) a b hne d2) ⟨vs1, vs2, dd1, dd2, by rw [← rel1.length, ← rel2.length]; exact hz, fun h' dd' _ hs => ?_⟩
    have he : ∃ q, h'.get? a = some q := let ⟨q, _, _, hq, _⟩ := dd'; ⟨q, hq⟩
    have hl := length_mergeK more kvs
    exact ⟨.non, _, d_write (t' := s.toks) I (by rw [e1]; exact True.intro) hs he (dk_new (by omega) d1 (KV.merge rel2 rel1) dd'), rfl, q⟩
/-- x in a tuple of data -/
def rInDT (K : PySem.W.Frag) : R2 := fun x y H Q => ∃ d ds, Dp K H x d ∧ Dp K H y (.tuple ds) ∧ SeqAt.shaped d = true ∧ SeqAt.shaped (.tuple ds) = true ∧ Q (.bl (ds.any fun z => PyData.eqv z d)) H
theorem op_inDT (hu : X.A.units + 65 < cLine) : OpR X (compareOp .In) (rInDT X.K) := by
  intro pins s σ H x y v u Q I rx ry h
  obtain ⟨d, ds, hd, he, sd, se, q⟩ := h
  obtain ⟨as, r1⟩ := Dp.reads I d x v hd rx
  obtain ⟨bs, r2⟩ := Dp.reads I (.tuple ds) y u he ry
  exact SeqAt.in_tuple_reads r2 r1 (SeqAt.canLay_of_shaped se) (SeqAt.canLay_of_shaped sd) (room_in_shaped sd hu) ⟨.bl _, H, I, rfl, q⟩
end
theorem x_inDT {X : Cx} {K : PySem.W.Frag} (h : X.K = K) (hu : X.A.units + 65 < cLine) : OpR X (compareOp .In) (rInDT K) := h ▸ op_inDT hu
def wInDT : R2' := fun x y M Q => ∃ a ds, view M x = some a ∧ view M y = some (.tuple ds) ∧ SeqAt.shaped a = true ∧ SeqAt.shaped (.tuple ds) = true ∧ Q (.d (.bool (ds.any fun z => PyData.eqv z a))) M
theorem lr_inDT {K : PySem.W.Frag} : LR (rInDT K) wInDT := fun w M H x y vx vy Qu Q h rx ry hq o => by
  obtain ⟨a, ds, ea, eb, s1, s2, q⟩ := hq
  exact ⟨a, ds, (view_ok h rx ea).dp h.sub, (view_ok h ry eb).dp h.sub, s1, s2, o.here h (RU.D (.bl _)) q⟩
/-- update -/
def mergeD (kvs more : List (Key × PyData)) : List (Key × PyData) := more.foldl (fun acc kv => putD acc kv.1 kv.2) kvs
theorem mergeD_ok {F : Hp} : ∀ {more : List (Key × PyData)} {ms : List (Key × V)} {kvs : List (Key × PyData)} {ks : List (Key × V)}, KRel F more ms → KRel F kvs ks → KRel F (mergeD kvs more) (mergeK ks ms) := by
  intro more ms kvs ks r
  induction r generalizing kvs ks with
  | nil => exact id
  | @cons p q ps qs h t ih =>
    intro r0
    have e := putD_ok r0 h.2 p.1
    have e2 : mergeK ks (q :: qs) = mergeK (putK ks p.1 q.2) qs := by rw [h.1]; rfl
    rw [e2]
    exact ih e
def isDic (x : U) (M : List Ob) : Prop := ∃ n kvs, x = .p n ∧ M[n]? = some (.dic kvs)
theorem ty_dict {K : PySem.W.Frag} : TyOk K "dict" isDic := fun w M H x v h r t => by
  obtain ⟨n, kvs, rfl, hm⟩ := t
  obtain ⟨a, ob, rfl, _, ho, ks, rfl, _⟩ := cell_at h r hm (fun q => nomatch q)
  exact .inr (.inr (.inl ⟨rfl, .inl ⟨ks, ho⟩⟩))
def wUpd : WM := fun x ys M Q => ∃ n m kvs more, x = .p n ∧ ys = [.p m] ∧ n ≠ m ∧ M[n]? = some (.dic kvs) ∧ M[m]? = some (.dic more) ∧ kvs.length + more.length ≤ sizeLine ∧ Q (.d .none) (M.set n (.dic (mergeD kvs more)))
theorem lm_upd : LM rUpd wUpd := fun w M H x vx ys vs Qu Q h rx rs hq o => by
  obtain ⟨n, m, kvs, more, rfl, rfl, hne, hm, hm2, hl, q⟩ := hq
  obtain ⟨v, rfl, r⟩ := rus1 rs
  obtain ⟨a, ob, rfl, ha, ho, ks, rfl, r1⟩ := cell_at h rx hm (fun q => nomatch q)
  obtain ⟨b, ob, rfl, hb, hob, ms, rfl, r2⟩ := cell_at h r hm2 (fun q => nomatch q)
  have hab : a ≠ b := fun e => by
    subst e
    obtain ⟨h1, e1⟩ := List.getElem?_eq_some_iff.mp ha
    obtain ⟨h2, e2⟩ := List.getElem?_eq_some_iff.mp hb
    rcases Nat.lt_trichotomy n m with c | c | c
    · exact (List.pairwise_iff_getElem.mp (List.nodup_iff_pairwise_ne.mp h.nd) n m h1 h2 c) (e1.trans e2.symm)
    · exact hne c
    · exact (List.pairwise_iff_getElem.mp (List.nodup_iff_pairwise_ne.mp h.nd) m n h2 h1 c) (e2.trans e1.symm)
  exact ⟨a, b, ks, ms, rfl, rfl, hab, ho, hob, by rw [← Paired.length r1, ← Paired.length r2]; exact hl, set_out h ha hm (fun q => nomatch q) (RO.Dic (mergeD_ok r2 r1)) (RU.D .non) q o⟩
/-- sum of ints -/
def intsOf : List PyData → Option (List Int)
  | [] => some []
  | .int i :: ds => match intsOf ds with
    | some is => some (i :: is)
    | none => none
  | _ :: _ => none
theorem intsOf_ok {F : Hp} : ∀ {ds : List PyData} {vs : List V} {bs : List Int}, RpL F ds vs → intsOf ds = some bs → vs = bs.map V.int
  | _, _, _, .nil, e => by cases e; rfl
  | .int b :: ds, _, bs, .cons r t, e => by
    have e' : (match intsOf ds with | some bs => some (b :: bs) | none => none) = some bs := e
    cases q : intsOf ds with
    | none => rw [q] at e'; cases e'
    | some cs =>
      rw [q] at e'; cases e'
      cases r
      rw [intsOf_ok t q]; rfl
  | .none :: _, _, _, .cons _ _, e => by cases e
  | .bool _ :: _, _, _, .cons _ _, e => by cases e
  | .str _ :: _, _, _, .cons _ _, e => by cases e
  | .list _ :: _, _, _, .cons _ _, e => by cases e
  | .tuple _ :: _, _, _, .cons _ _, e => by cases e
  | .dict _ :: _, _, _, .cons _ _, e => by cases e
theorem intsOf_map : ∀ bs : List Int, intsOf (bs.map PyData.int) = some bs
  | [] => rfl
  | b :: bs => by
    show (match intsOf (bs.map PyData.int) with | some bs => some (b :: bs) | none => none) = _
    rw [intsOf_map bs]
theorem x_sum {X : Cx} {K : PySem.W.Frag} (h : X.K = K) (hc : X.calm = true) : CallR X (.builtin "sum") (rSum K) := h ▸ cr_sum hc
def wSum : List U → List Ob → (U → List Ob → Prop) → Prop := fun us M Q => ∃ u ds is, us = [u] ∧ view M u = some (.list ds) ∧ intsOf ds = some is ∧ Q (.d (.int is.sum)) M
theorem lc_sum {K : PySem.W.Frag} : LC (rSum K) wSum := fun w M H x vx Qu Q h rx hq o => by
  obtain ⟨u, ds, is, rfl, e, e2, q⟩ := hq
  obtain ⟨v, rfl, r⟩ := rus1 rx
  obtain ⟨p, vs, rfl, hp, r1⟩ := view_ok h r e
  have e3 := intsOf_ok r1 e2
  subst e3
  exact ⟨p, is, rfl, SqL.of hp, o.here h (RU.D (.int _)) q⟩
/-! ### t[::-1] of a tuple -/
section
open PySem.Spec PyProof.Rows HT
variable {prog : Program} {w : World} {A : Around} {E : Value → Shared → Prop} {s : Shared}
theorem places_rev (n : Nat) : Builtin.Slice.slicePlaces ((n : Int) - 1) (-1) (-1) = n := by
  unfold Builtin.Slice.slicePlaces
  have h1 : ¬ ((-1 : Int) > 0) := by omega
  have e : (- -1 : Int) = 1 := by decide
  simp only [h1, if_false, e, Int.ediv_one]
  split <;> omega
theorem sliceApplied_rev {sl : Addr} {vs : Value} {n : Nat} {Q : Int × Int × Nat → Shared → Prop} (hs : s.heap.IsSliceOf sl .none .none vs) (ps : IsPart vs (some (-1)))
    (h : Q ((n : Int) - 1, -1, n) s) : wpAny (model prog w) A (Builtin.Slice.sliceApplied (.ref sl) (pure (n : Int))) Q E s := by
  obtain ⟨os, hos, hcs, hds⟩ := id hs
  unfold Builtin.Slice.sliceApplied Builtin.Slice.sliceFields
  refine wpAny_bind (wpAny_bind (wpAny_field hos hds (x := .none) rfl (wpAny_bind (wpAny_field hos hds (x := .none) rfl (wpAny_bind (wpAny_field hos hds (x := vs) rfl (wpAny_pure ?_)))))))
  refine wpAny_bind (slicePart_ ps ?_)
  show wpAny _ _ (if ((-1 : Int) == 0) = true then _ else _) _ _ s
  rw [if_neg (by decide)]
  refine wpAny_bind (slicePart_ .none (wpAny_bind (slicePart_ .none (wpAny_bind (wpAny_pure ?_)))))
  show wpAny _ _ (pure ((n : Int) - 1, (-1 : Int), Builtin.Slice.slicePlaces ((n : Int) - 1) (-1) (-1))) _ _ s
  rw [places_rev]
  exact wpAny_pure h
theorem fm_congr {α β : Type} {f g : α → Option β} : ∀ {l : List α}, (∀ x ∈ l, f x = g x) → l.filterMap f = l.filterMap g
  | [], _ => rfl
  | x :: l, h => by rw [List.filterMap_cons, List.filterMap_cons, h x List.mem_cons_self, fm_congr fun y hy => h y (List.mem_cons_of_mem _ hy)]
theorem pick_rev (xs : Array Value) : ((List.range xs.size).filterMap fun (k : Nat) => xs[((xs.size : Int) - 1 + (k : Int) * -1).toNat]?).toArray = xs.toList.reverse.toArray := by
  have e : ((List.range xs.size).filterMap fun (k : Nat) => xs[((xs.size : Int) - 1 + (k : Int) * -1).toNat]?) = ((List.range xs.size).map fun k => xs.size - 1 - k).filterMap (xs[·]?) := by
    rw [List.filterMap_map]
    apply fm_congr
    intro k hk
    have := List.mem_range.mp hk
    have e2 : ((xs.size : Int) - 1 + (k : Int) * -1).toNat = xs.size - 1 - k := by omega
    rw [e2]; rfl
  rw [e, PySem.W.krv_range, List.filterMap_reverse, PySem.W.krv_all]
theorem getItem_tuple_rev {t sl : Addr} {items : Array Value} {vs : Value} {Q : Value → Shared → Prop} (ht : IsTup s.heap t items) (hs : s.heap.IsSliceOf sl .none .none vs) (ps : IsPart vs (some (-1)))
    (h : Q (.ref s.heap.objs.size) { s with heap := s.heap.push { cls := .type "tuple", data := .seq items.toList.reverse.toArray } })
    (hsz : items.size ≤ sizeLine) : wpAny (model prog w) A (getItem (.ref t) (.ref sl)) Q E s := by
  have htake : sizeOk (.seq items.toList.reverse.toArray) := by
    show items.toList.reverse.toArray.size ≤ sizeLine
    rw [List.size_toArray, List.length_reverse, Array.length_toList]
    exact hsz
  obtain ⟨os, hos, hcs, hds⟩ := id hs
  have hTs : s.TypeIs (.ref sl) "slice" := ⟨os, hos, hcs⟩
  unfold getItem
  try with_reducible refine wpAny_holding ?_
  first | refine wpAny_bind (wpAny_pure ?_) | skip
  refine wpAny_bind (wpAny_sequenceKey ht.typeIs (by decide) ?_)
  refine wpAny_bind (wpAny_callSpecial?_slot (name := Str.ofString "__getitem__") ht.typeIs PyProof.Rows.slot_tuple_getitem
    (wpAny_call_entry PyProof.Rows.slot_tuple_getitem ht.typeIs entry_tuple_getitem ?_ (args_tuple_getitem _ _)))
  show wpAny _ _ (Builtin.Tuple.tupleItemsOf (.ref t) >>= _) _ _ s
  refine wpAny_bind (tupleItemsOf_ ht ?_)
  refine wpAny_bind (wpAny_typeOf hTs ?_)
  rw [if_pos (by decide)]
  refine wpAny_bind (sliceApplied_rev hs ps ?_)
  have hno : ¬ ((((items.size : Int) - 1) == 0 && (-1 : Int) == 1 && items.size == items.size) = true) := by simp
  show wpAny _ _ (if (((items.size : Int) - 1) == 0 && (-1 : Int) == 1 && items.size == items.size) = true then _ else _) _ _ s
  rw [if_neg hno, pick_rev]
  first
    | exact wpAny_bind (m := Builtin.Tuple.tupleExact _) (wpAny_newObj_type (wpAny_pure ⟨_, rfl, wpAny_pure h⟩) htake)
    | exact wpAny_bind (m := Builtin.Tuple.tupleExact _) (wpAny_newObj_type (wpAny_bind (wpAny_pure (wpAny_pure ⟨_, rfl, wpAny_pure h⟩))) htake)
    | exact wpAny_bind (wpAny_bind (m := Builtin.Tuple.tupleExact _) (wpAny_newObj_type (wpAny_pure (wpAny_pure ⟨_, rfl, wpAny_pure h⟩)) htake))
    | exact wpAny_bind (wpAny_bind (m := Builtin.Tuple.tupleExact _) (wpAny_newObj_type (wpAny_pure ⟨_, rfl, wpAny_pure h⟩) htake))
end
section
open PySem.Spec PyProof.Rows
def tRevT (K : PySem.W.Frag) (te : TE) : TE := fun σ H Q => te σ H fun x H1 => ∃ a xs, x = .ref a ∧ SqT K H1 a xs ∧ ∀ p, H1 p = none → Q (.ref p) (upd H1 p (.tup xs.reverse))
theorem pe_revT {X : Cx} {e : Expr} {te : TE} {k : Nat} {p1 p2 p3 pos : Pos} (he : PE X e te) : PE X (.Subscript e (.Slice none none (some (.UnaryOp .USub (.Constant (.int 1) k p1) p2)) p3) pos) (tRevT X.K te) := by
  refine ⟨fun pins s σ H Q I h => ?_⟩
  refine Subscript_ (thn (he.run pins s σ H _ I h) fun v s1 ⟨x, H1, I1, r1, q1⟩ => ?_)
  obtain ⟨a, xs, ex, hx, q⟩ := q1
  subst ex
  cases r1
  have hst : PO X (some (.UnaryOp .USub (.Constant (.int 1) k p1) p2)) (tPart (tUn (rU fun i => .int (-i)) (tC (.int 1)))) := po_some (pe_un un_neg pe_int)
  refine wpAny_Slice (thn (po_none.run pins s1 σ H1 (fun o H2 => o = none ∧ H2 = H1) I1 ⟨rfl, rfl⟩) fun vl s2 ⟨l, H2, I2, pl, el, e2⟩ => ?_)
  subst el e2
  refine thn (po_none.run pins s2 σ H2 (fun o H3 => o = none ∧ H3 = H2) I2 ⟨rfl, rfl⟩) fun vu s3 ⟨u, H3, I3, pu, eu, e3⟩ => ?_
  subst eu e3
  refine thn (hst.run pins s3 σ H3 (fun o H4 => o = some (-1) ∧ H4 = H3) I3 ⟨1, rfl, -1, rfl, rfl, rfl⟩) fun vs s4 ⟨o, H4, I4, ps, eo, e4⟩ => ?_
  subst eo e4
  cases pl
  cases pu
  have I5 : Inv X pins σ H4 { s4 with heap := s4.heap.push { cls := .type "slice", data := .fields #[.none, .none, vs] } } := I4.kept (t' := s4.toks) fun b ob q => Heap.get?_push_of_some _ q
  obtain ⟨its, r, ht, hz⟩ := I5.tuple hx
  show wpAny (model X.prog X.w) X.A (subscriptTail e (.Slice none none (some (.UnaryOp .USub (.Constant (.int 1) k p1) p2)) p3) (.ref a) (.ref s4.heap.objs.size)) (EP X pins σ Q) X.xe { s4 with heap := s4.heap.push { cls := .type "slice", data := .fields #[.none, .none, vs] } }
  have hlen := r.length
  refine tail_any (ops := [.ref a, .ref s4.heap.objs.size]) ht.typeIs (PyProof.Rows.slot_tuple_getitem.lookup) ?_ (by with_unfolding_all rfl)
  refine getItem_tuple_rev ht (Heap.IsSliceOf.new _ .none .none vs) ps ?_ (by rw [List.size_toArray]; omega)
  refine ⟨.ref _, _, I5.laid (t' := s4.toks) (o := .tup xs.reverse) (fun b ob q => Heap.get?_push_of_some _ q) (Nat.le_refl _) ?_, rfl, q _ (I5.hok.fresh (Nat.le_refl _))⟩
  exact ⟨by rw [List.length_reverse]; exact hz, _, r.reverse, IsTup.new _ _⟩
end
def wRevT (we : WE) : WE := fun ρ M Q => we ρ M fun x M1 => ∃ ds, view M1 x = some (.tuple ds) ∧ Q (.d (.tuple ds.reverse)) M1
theorem le_revT {K : PySem.W.Frag} {te : TE} {we : WE} (he : LE te we) : LE (tRevT K te) (wRevT we) := fun _ _ _ _ _ _ _ h e hq o =>
  he h e hq fun x M1 v w1 H1 s1 h1 r1 q1 => by
    obtain ⟨ds, ed, q⟩ := q1
    obtain ⟨p, vs, rfl, hp, r, k⟩ := vw_tup h1.sub (view_ok h1 r1 ed)
    refine ⟨p, vs, rfl, SqT.of hp, fun l hl => ?_⟩
    exact (o.trans s1 h1) _ _ _ _ _ (Step.put h1 hl) (h1.put hl) (RU.D (.tup Wd.putF (r.reverse.mono (same_put (h1.newF hl))))) q
end DL

namespace DL
open PySem L2
/-! ### an expression is cut off: what follows knows only R of its value -/
def wCutE (we : WE) : WE := fun ρ M Q => ∃ R : U → List Ob → Prop, we ρ M R ∧ ∀ u M1, R u M1 → Q u M1
theorem le_cutE {te : TE} {we : WE} (he : LE te we) : LE te (wCutE we) := fun _ _ _ _ _ _ _ h e ⟨_, hw, hR⟩ o =>
  he h e hw fun _ _ _ _ _ s1 h1 r1 q1 => o _ _ _ _ _ s1 h1 r1 (hR _ _ q1)
end DL

namespace DL
open PySem L2
/-! ### len(set(xs)) of a list of ints -/
/-- each int once, where it is met first -/
def firsts (ns : List Int) : List Int := PyProof.Rows.firstMet (fun i => ns.getD i 0) ns.length
theorem met_all (f : Nat → Int) : ∀ n, (PyProof.Rows.firstMet f n).Nodup ∧ (∀ x, x ∈ PyProof.Rows.firstMet f n ↔ ∃ i, i < n ∧ f i = x) ∧ (PyProof.Rows.firstMet f n).length ≤ n
  | 0 => ⟨List.nodup_nil, fun x => ⟨fun h => (by cases h), fun ⟨i, h, _⟩ => absurd h (Nat.not_lt_zero _)⟩, Nat.le_refl _⟩
  | n + 1 => by
    obtain ⟨a, b, c⟩ := met_all f n
    have e := PyProof.Rows.firstMet_succ f n
    cases hq : (PyProof.Rows.firstMet f n).any (fun z => z == f n) with
    | true =>
      have e2 : PyProof.Rows.firstMet f (n + 1) = PyProof.Rows.firstMet f n := e.trans (if_pos hq)
      obtain ⟨z, hz, ez⟩ := List.any_eq_true.mp hq
      have ez' : z = f n := by simpa using ez
      subst ez'
      rw [e2]
      refine ⟨a, fun x => ⟨fun h => ?_, fun ⟨i, hi, ex⟩ => ?_⟩, by omega⟩
      · obtain ⟨i, hi, ex⟩ := (b x).mp h
        exact ⟨i, by omega, ex⟩
      · by_cases hin : i = n
        · subst hin; rw [← ex]; exact hz
        · exact (b x).mpr ⟨i, by omega, ex⟩
    | false =>
      have e2 : PyProof.Rows.firstMet f (n + 1) = PyProof.Rows.firstMet f n ++ [f n] := e.trans (if_neg (by intro q; exact absurd (hq.symm.trans q) (by decide)))
      rw [e2]
      have hno : f n ∉ PyProof.Rows.firstMet f n := fun hm => by
        have : (PyProof.Rows.firstMet f n).any (fun z => z == f n) = true := List.any_eq_true.mpr ⟨_, hm, by simp⟩
        rw [hq] at this; cases this
      refine ⟨List.nodup_append.mpr ⟨a, by simp, fun x hx y hy => ?_⟩, fun x => ⟨fun h => ?_, fun ⟨i, hi, ex⟩ => ?_⟩, by rw [List.length_append, List.length_singleton]; omega⟩
      · have e3 : y = f n := by simpa using hy
        subst e3
        exact fun q => hno (q ▸ hx)
      · rcases List.mem_append.mp h with h | h
        · obtain ⟨i, hi, ex⟩ := (b x).mp h
          exact ⟨i, by omega, ex⟩
        · exact ⟨n, by omega, (List.mem_singleton.mp h).symm⟩
      · by_cases hin : i = n
        · subst hin; rw [← ex]; exact List.mem_append_right _ (List.mem_singleton.mpr rfl)
        · exact List.mem_append_left _ ((b x).mpr ⟨i, by omega, ex⟩)
theorem firsts_nodup (ns : List Int) : (firsts ns).Nodup := (met_all _ _).1
theorem firsts_len (ns : List Int) : (firsts ns).length ≤ ns.length := (met_all _ _).2.2
theorem firsts_mem (ns : List Int) (x : Int) : x ∈ firsts ns ↔ x ∈ ns := by
  rw [firsts, (met_all _ _).2.1 x]
  constructor
  · rintro ⟨i, hi, rfl⟩
    rw [List.getD_eq_getElem?_getD, List.getElem?_eq_getElem hi]
    exact List.getElem_mem hi
  · intro h
    obtain ⟨i, hi, e⟩ := List.getElem_of_mem h
    exact ⟨i, hi, by rw [List.getD_eq_getElem?_getD, List.getElem?_eq_getElem hi, e]; rfl⟩
def tFew (K : PySem.W.Frag) (t : TE) : TE := fun σ H Q => t σ H fun x H1 => ∃ (p : Addr) (ns : List Int), x = .ref p ∧ SqL K H1 p (ns.map V.int) ∧ ns.length ≤ 4000 ∧ Q (.int ((firsts ns).length : Nat)) H1
section
open PySem.Spec PyProof.Rows
variable {X : Cx} {e : Expr} {t : TE} {p1 p2 p3 p4 : Pos}
theorem pe_lenSetG (g1 : Gl X "len") (m1 : X.mg "len" = none) (g2 : Gl X "set") (m2 : X.mg "set" = none) (he : PE X e t) (calm : X.calm = true := by rfl) (ne : starEach [e] X.env = (false, eval e X.env) :: starEach [] X.env := by rfl) :
    PE X (.Call (.Name "len" p1) [.Call (.Name "set" p2) [e] [] p3] [] p4) (tFew X.K t) := .mk fun pins s σ H Q I h =>
  Call_ (ld_blt I g1 m1 boot_len (PyProof.Rows.callWith_builtin1 (PyProof.Rows.args_cons (Call_ (ld_blt I g2 m2 boot_set
    (PyProof.Rows.callWith_type1 (PyProof.Rows.args_cons (thn (he.run pins s σ H _ I h) fun v s1 ⟨x, H1, I1, r1, q1⟩ => PyProof.Rows.args_nil (by
      obtain ⟨p, ns, rfl, hs, hl, q⟩ := q1
      cases r1
      obtain ⟨its, rv, pl, _⟩ := I1.list hs
      have en : its.toArray.size = ns.length := by rw [List.size_toArray, ← rv.length]; exact List.length_map ..
      refine call_set_list (ns := ns) (I1.ok.hd calm) pl.isList (by simpa using RZ.intsAre_vals rv) (by rw [en]; unfold scanBound; omega) fun h2 tk hS keep => PyProof.Rows.args_nil ?_
      rw [en] at hS
      have hle := firsts_len ns
      obtain ⟨ob, es, ep, tb, ho, hx, hd, _, _, _, hf, hn⟩ := hS
      have I2 : Inv X pins σ H1 { s1 with heap := h2, toks := tk } := I1.kept fun b o eb => keep b o (Heap.lt_size eb) eb
      have hn' : es.size = (firsts ns).length := hn
      exact call_len_set ho hx hd hf (by rw [hn'] <;> omega) ⟨.int ((firsts ns).length : Nat), H1, I2.tok _, ⟨_, by rw [hn']⟩, q⟩)) ne) ne rfl)) ) rfl) rfl rfl))
end
def wFew (we : WE) : WE := fun ρ M Q => we ρ M fun x M1 => ∃ ns : List Int, view M1 x = some (.list (ns.map PyData.int)) ∧ ns.length ≤ 4000 ∧ Q (.d (.int ((firsts ns).length : Nat))) M1
theorem ints_rep {F : Hp} : ∀ {ns : List Int} {vs : List V}, RpL F (ns.map PyData.int) vs → vs = ns.map V.int
  | [], _, .nil => rfl
  | n :: ns, _, .cons r t => by cases r; rw [ints_rep t]; rfl
theorem le_few {K : PySem.W.Frag} {te : TE} {we : WE} (he : LE te we) : LE (tFew K te) (wFew we) := fun _ _ _ _ _ _ _ h e hq o =>
  he h e hq fun _ _ _ _ _ s1 h1 r1 q1 => by
    obtain ⟨ns, ev, hl, q⟩ := q1
    obtain ⟨p, vs, rfl, hp, r⟩ := view_ok h1 r1 ev
    rw [ints_rep r] at hp
    exact ⟨p, ns, rfl, SqL.of hp, hl, (o.trans s1 h1).here h1 (RU.D (.int _)) q⟩
end DL
namespace DL
open PySem L2 PySem.Spec PyProof.Rows
/-! ### str of any data -/
def strD : PyData → Str
  | .str x => x
  | d => d.shown
def rStrG (K : PySem.W.Frag) : List V → Hp → VK → Prop := fun xs H Q => ∃ v d, xs = [v] ∧ Dp K H v d ∧ d.showable = true ∧ d.hasDict = false ∧ d.depth ≤ 60 ∧ d.shown.length ≤ sizeLine ∧ Q (.str (strD d)) H
theorem call_strG {X : Cx} (cm : Calm X.A) (hu : X.A.units + 64 < cLine) : CallR X (.type "str") (rStrG X.K) := by
  intro pins s σ H xs us Q I rv h
  obtain ⟨v, d, rfl, hd, h2, h3, h4, h5, q⟩ := h
  have big : isDisplay d = true → strD d = d.shown → wpAny (model X.prog X.w) X.A (call (.type "str") us) (EP X pins σ Q) X.xe s := fun hi e =>
    call_strB cm hu pins s σ H [v] us Q I rv ⟨v, d, rfl, hd, hi, h2, h3, h4, h5, by rw [← e]; exact q⟩
  cases hd with
  | non =>
    cases rv with
    | cons r t => cases t; cases r; exact PySem.P.str_of_none ⟨.str "None", H, I.tok _, ⟨_, rfl⟩, q⟩
  | bl b =>
    cases rv with
    | cons r t => cases t; cases r; exact PySem.P.str_of_bool ⟨.str (strD (.bool b)), H, I.tok _, ⟨_, by cases b <;> rfl⟩, q⟩
  | int i =>
    cases rv with
    | cons r t => cases t; obtain ⟨tk, rfl⟩ := r; exact PySem.P.str_of_int (of_decide_eq_true h2) ⟨.str _, H, I.tok _, ⟨_, rfl⟩, q⟩
  | str x =>
    cases rv with
    | cons r t => cases t; obtain ⟨tk, rfl⟩ := r; exact PySem.P.str_of_str ⟨.str x, H, I, ⟨_, rfl⟩, q⟩
  | lst _ _ => exact big rfl rfl
  | tup _ _ => exact big rfl rfl
def wStrG : List U → List Ob → (U → List Ob → Prop) → Prop := fun us M Q => ∃ u d, us = [u] ∧ view M u = some d ∧ d.showable = true ∧ d.hasDict = false ∧ d.depth ≤ 60 ∧ d.shown.length ≤ sizeLine ∧ Q (.d (.str (strD d))) M
theorem lc_strG {K : PySem.W.Frag} : LC (rStrG K) wStrG := fun w M H x vx Qu Q h rx hq o => by
  obtain ⟨u, d, rfl, hv, h2, h3, h4, h5, q⟩ := hq
  cases rx with
  | cons r t =>
    cases t
    exact ⟨_, d, rfl, Vw.dp h.sub (view_ok h r hv), h2, h3, h4, h5, o.here h (RU.D (.str _)) q⟩
end DL
namespace DL
open PySem L2
/-! ### xs[::-1] of a list -/
def wRevL (we : WE) : WE := fun ρ M Q => we ρ M fun x M1 => ∃ ds, view M1 x = some (.list ds) ∧ Q (.d (.list ds.reverse)) M1
theorem le_revL {K : PySem.W.Frag} {te : TE} {we : WE} (he : LE te we) : LE (tRevL K te) (wRevL we) := fun _ _ _ _ _ _ _ h e hq o =>
  he h e hq fun x M1 v w1 H1 s1 h1 r1 q1 => by
    obtain ⟨ds, ed, q⟩ := q1
    obtain ⟨p, vs, rfl, hp, r⟩ := view_ok h1 r1 ed
    refine ⟨p, vs, rfl, SqL.of hp, fun l hl => ?_⟩
    exact (o.trans s1 h1) _ _ _ _ _ (Step.put h1 hl) (h1.put hl) (RU.D (.lst Wd.putF (r.reverse.mono (same_put (h1.newF hl))))) q
end DL

namespace DL
open PySem L2 PySem.Spec PyProof.Rows
/-! ### {e for x in xs if t}: a set of ints and texts; its length -/
def fAddK (P : Program) (w : World) (D : Addr) (tt : TT) (te : TE) : L2.St → Hp → (Hp → Prop) → Prop := fun σ H N => tt σ H fun b H1 => if b = true then te σ H1 fun y H2 =>
  ∃ (k : Key) (S : Key → Bool) (n : Nat), y = kV k ∧ H2 D = some (SetK P w D S n) ∧ n + 1 < scanBound ∧ N (upd H2 D (SetK P w D (fun j => S j || decide (j = k)) (if S k = true then n else n + 1))) else N H1
def tScK (P : Program) (w : World) (wi : TI) (g : TG) (tt : TT) (te : TE) (vs : List Nat) : TE := fun σ H Q => wi σ H fun J H1 => ∀ D, H1 D = none →
  ∃ W : Nat → Nat → Hp → Prop, (∃ m, W 0 m (upd H1 D (SetK P w D (fun _ => false) 0))) ∧ fLoop D J g σ vs (fAddK P w D tt te) (Q (.ref D)) W
section
variable {X : Cx}
theorem pe_scK {own : List (PySem.Str × Nat)} {elt tg iter : Expr} {ifs : List Expr} {sc : Scope} {p : Pos} {wi : TI} {g : TG} {tt : TT} {te : TE} (calm : X.calm = true) (hN : X.N.Nodup) (hi : PI X tg iter wi) (ok : BlkOk X.N X.env.scope sc own)
    (pg : ∀ (s : Shared) (H : Hp) (C : Addr) (cl : List (PySem.Str × Addr)) (fp : List Addr), PG (X.blk s H sc (compEnvC sc cl C X.env) fp) tg g)
    (pt : ∀ (s : Shared) (H : Hp) (C : Addr) (cl : List (PySem.Str × Addr)) (fp : List Addr), PTs (X.blk s H sc (compEnvC sc cl C X.env) fp) ifs tt)
    (pe : ∀ (s : Shared) (H : Hp) (C : Addr) (cl : List (PySem.Str × Addr)) (fp : List Addr), PE (X.blk s H sc (compEnvC sc cl C X.env) fp) elt te)
    (hs : ∀ x, foldedSetIterable iter X.env x = pure x := by intro _; rfl) : PE X (.SetComp elt [⟨tg, iter, ifs, 0⟩] sc p) (tScK X.prog X.w wi g tt te (own.map (·.2))) := .mk fun pins s σ H Q I h => by
  have cells : ∀ y ∈ sc.names, y.2 = .free → ∃ c, X.env.cells.lookup y.1 = some c := fun y hy e => (ok.free y hy e).elim (fun q => I.ok.has _ (.inl q)) fun q => I.ok.has _ (.inr q)
  rw [PpSet.eval_SetComp]
  refine wpAny_comprehension_free (use := none) rfl hs (closure_ok cells) ok.kind (fun y hy e => by rw [ok.uniq y hy, e]) (thn (hi.run pins s σ H _ I h) fun xv s1 hx => thn hx fun itv s2 ⟨it, fp, tn, J, H2, e, I2, T, at0, f2, q⟩ => ?_)
  subst e
  refine PpSet.newSet_ok (newEnv_comp ?_)
  obtain ⟨D, hD⟩ : ∃ D, s2.heap.objs.size = D := ⟨_, rfl⟩
  obtain ⟨so, hso⟩ : ∃ so : Obj, ({ cls := .type "set", dict := none, data := .set #[] 0 (.fresh 0 0 (!X.w.params.followText "set-order")) } : Obj) = so := ⟨_, rfl⟩
  obtain ⟨W, ⟨m0, w0⟩, turn⟩ := q D (I2.hok.fresh (Nat.le_of_eq hD))
  have emp : (s2.heap.push so).SetOf (mixKind X.prog X.w) D (fun _ => false) 0 := by
    rw [← hD, ← hso]
    exact ⟨_, #[], 0, _, Heap.get?_push_size _ rfl, ⟨rfl, rfl, rfl⟩, rfl, (fun e he => by simp at he), (fun k => by simp), (by decide), (by rfl), rfl⟩
  rw [hso, hD]
  obtain ⟨s3, hs3⟩ : ∃ s3 : Shared, ({ s2 with heap := s2.heap.push so } : Shared) = s3 := ⟨_, rfl⟩
  obtain ⟨H3, hH3⟩ : ∃ H3, upd H2 D (SetK X.prog X.w D (fun _ => false) 0) = H3 := ⟨_, rfl⟩
  rw [hH3] at w0
  have e3 : s3.heap = s2.heap.push so := by rw [← hs3]
  have I3 : Inv X pins σ H3 s3 := by
    rw [← hs3, ← hH3]
    exact I2.laid (t' := s2.toks) (fun b o z => Heap.get?_push_of_some _ z) (Nat.le_of_eq hD) (setK_new emp)
  have low : ∀ b ∈ fp, b < s2.heap.objs.size := fun b hb => (T.obj _ _ at0 b hb).elim fun o z => Heap.lt_size z.1
  have f3 : ∀ b ∈ fp, FpOk X pins H3 b ∧ b < s3.heap.objs.size := fun b hb =>
    ⟨⟨by rw [← hH3, upd_ne (by rw [← hD]; exact Nat.ne_of_lt (low b hb))]; exact (f2 b hb).1, (f2 b hb).2⟩, by rw [e3, Heap.size_push]; exact Nat.lt_succ_of_lt (low b hb)⟩
  have at3 : tn 0 s3.heap := T.keep _ _ _ at0 fun b _ o z => by rw [e3]; exact Heap.get?_push_of_some _ z
  have I4 := block_start I3 ok hN f3
  rw [show ({ s2 with heap := s2.heap.push so } : Shared).heap = s3.heap by rw [hs3]]
  obtain ⟨cs, hcs⟩ : ∃ cs, cellsFrom (s3.heap.objs.size + 1) sc.names (cloFrom X.env.cells sc.names []) = cs := ⟨_, rfl⟩
  have pg1 := pg s3 H3 s3.heap.objs.size cs fp
  have pt1 := pt s3 H3 s3.heap.objs.size cs fp
  have pe1 := pe s3 H3 s3.heap.objs.size cs fp
  rw [hcs] at I4
  show codeAny _ _ (.compStart (.SetComp elt [⟨tg, iter, ifs, 0⟩] sc p) 0 (.ref it) (.ref D) (compEnvC sc (cellsFrom (s3.heap.objs.size + 1) sc.names (cloFrom X.env.cells sc.names [])) s3.heap.objs.size X.env)) _ { s2 with heap := pushCells (s3.heap.push { cls := .type "dict", data := .dict #[] }) sc.names }
  rw [hcs]
  have off : ∀ b ∈ fp, H3 b = none := fun b hb => (f3 b hb).1.1
  obtain ⟨ce, hce⟩ : ∃ ce, compEnvC sc cs s3.heap.objs.size X.env = ce := ⟨_, rfl⟩
  rw [hce] at I4 pg1 pt1 pe1 ⊢
  have cL : ce.locals = s3.heap.objs.size := by rw [← hce]; rfl
  obtain ⟨s4, hs4⟩ : ∃ s4 : Shared, ({ s2 with heap := pushCells (s3.heap.push { cls := .type "dict", data := .dict #[] }) sc.names } : Shared) = s4 := ⟨_, rfl⟩
  have hs4' : ({ s3 with heap := pushCells (s3.heap.push { cls := .type "dict", data := .dict #[] }) sc.names } : Shared) = s4 := by rw [← hs4, ← hs3]
  rw [hs4'] at I4
  rw [hs4]
  have at4 : tn 0 s4.heap := T.keep _ _ _ at3 fun b _ o z => by rw [← hs4']; exact pushCells_keeps _ _ _ _ (Heap.get?_push_of_some _ z)
  have fps : ∀ {τ : L2.St} {G : Hp} {s' : Shared}, Inv (X.blk s3 H3 sc ce fp) [] τ G s' → (∀ b ∈ fp, G b = none) → ∀ b ∈ fp, FpOk (X.blk s3 H3 sc ce fp) [] G b := fun {τ G s'} J n b hb =>
    ⟨n b hb, (J.ok.exf b hb).1, J.ok.exfs b hb, .inl hb, fun x c z => (J.ok.exf b hb).2 x c z, fun y hy => absurd (show y ∈ ([] : List (Addr × Obj)) ++ [] from hy) (by simp)⟩
  have run : codeAny (model X.prog X.w) X.A (.compLoop (.SetComp elt [⟨tg, iter, ifs, 0⟩] sc p) 0 (.ref it) (.ref D) ce) (compPost (model X.prog X.w) X.A X.xe none (EP X pins σ Q) (.ref D) s3.heap.objs.size) s4 :=
    PpSet.compLoopS_any (fun n s' => ∃ i G, Inv (X.blk s3 H3 sc ce fp) [] (wipe σ (own.map (·.2))) G s' ∧ tn i s'.heap ∧ (∀ b ∈ fp, G b = none) ∧ W i n G) (by
      rintro n s5 ⟨i, H5, I5, at5, n5, w5⟩
      rcases turn i n H5 w5 with ⟨stop, fin⟩ | ⟨go, Nx, down, step⟩
      · refine thnF (T.done (X.blk s3 H3 sc ce fp) rfl rfl rfl calm i [] s5 _ H5 (fun _ _ => False) I5 (fps I5 n5) at5 stop) fun r s6 ⟨hr, I6⟩ => ?_
        subst hr
        have free : H5 s3.heap.objs.size = none := by rw [← cL]; exact I6.free
        obtain ⟨m, hn, _⟩ := I6.loc
        rw [show (X.blk s3 H3 sc ce fp).env.locals = s3.heap.objs.size from cL] at hn
        obtain ⟨k0, k1, k2, k3, k4, k5⟩ := I3.fpOk (Nat.le_refl _) free
        have I7 : Inv X pins σ H5 s6 := I3.call' (ch := fp) I6.os I6.base I6.hok I6.bare fun b hb =>
          let z := (f3 b hb).1.2
          ⟨z.2.2.1, z.1, z.2.2.2.1, z.2.2.2.2⟩
        exact ⟨m, hn, fun h'' sb => ⟨.ref D, H5, I7.turned (t' := s6.toks) (fun b o hb z => (sb.2 b hb).trans z) k0 k1 k3 k4 k5, rfl, fin⟩⟩
      · refine thnF (T.item (X.blk s3 H3 sc ce fp) rfl rfl rfl calm i [] s5 _ H5 (fun _ _ => False) I5 (fps I5 n5) at5 go) fun r s6 ⟨u, hr, h6⟩ => ?_
        subst hr
        refine thnF h6 fun _ s7 ⟨x, H7, I7, r7, y7, at7, n7⟩ => ?_
        refine thnF (pg1.run _ s7 _ H7 x u _ (I7.pinned (fps I7 n7) (T.obj _ _ at7)) r7 (step x H7 y7)) fun _ s8 ⟨σ8, H8, I8, hw8, q8⟩ => ?_
        refine thnF (pt1.run _ s8 σ8 H8 _ I8 q8) fun b s9 ⟨H9, I9, q9⟩ => ?_
        have out : ∀ {s' : Shared} {G : Hp}, Inv (X.blk s3 H3 sc ce fp) ([] ++ pinsAt fp s7.heap) σ8 G s' → Nx G → ∃ m, m < n ∧ ∃ i G, Inv (X.blk s3 H3 sc ce fp) [] (wipe σ (own.map (·.2))) G s' ∧ tn i s'.heap ∧ (∀ b ∈ fp, G b = none) ∧ W i m G := fun {s' G} J nx => by
          obtain ⟨m', hm, w'⟩ := down G nx
          have pin : ∀ b ∈ fp, ∀ o, s7.heap.get? b = some o → s'.heap.get? b = some o ∧ G b = none := fun b hb o z =>
            let y := J.pin (b, o) (List.mem_append_right _ (List.mem_append_right _ (mem_pinsAt hb z)))
            ⟨y.1, y.2.1⟩
          refine ⟨m', hm, i + 1, G, (J.unpinned (pins := [])).weak (by rw [← hw8, wipe_length]) (fun j v z => by rw [← hw8] at z; exact (wipe_some z).1), T.keep _ _ _ at7 fun b hb o z => (pin b hb o z).1, fun b hb => ?_, w'⟩
          obtain ⟨o, z, _⟩ := T.obj _ _ at7 b hb
          exact (pin b hb o z).2
        cases b with
        | false =>
          simp only [Bool.false_eq_true, if_false] at q9 ⊢
          exact out I9 q9
        | true =>
          simp only [if_true] at q9 ⊢
          refine thnF (pe1.run _ s9 σ8 H9 _ I9 q9) fun z s10 ⟨yv, H10, I10, r10, k, S0, n0, ey, hD10, room, nx⟩ => ?_
          subst ey
          exact thnF (mt_saddK (X := X.blk s3 H3 sc ce fp) _ s10 σ8 H10 (.ref D) [kV k] (.ref D) [z] (fun _ G => Nx G) I10 rfl (.cons r10 .nil) ⟨D, k, S0, n0, rfl, rfl, hD10, room, nx⟩) fun _ s11 ⟨_, H11, I11, _, q11⟩ => out I11 q11) m0 ⟨0, H3, I4, at4, off, w0⟩
  exact PpSet.codeAny_compStart_set run (T.self X.A 0 _ _ _ at4 run)
end
end DL

namespace DL
open PySem L2 PySem.Spec PyProof.Rows
def inK (ks : List Key) (k : Key) : Bool := ks.any fun z => decide (z = k)
theorem inK_iff {ks : List Key} {k : Key} : inK ks k = true ↔ k ∈ ks := by
  unfold inK
  rw [List.any_eq_true]
  exact ⟨fun ⟨z, hz, e⟩ => of_decide_eq_true e ▸ hz, fun h => ⟨k, h, decide_eq_true rfl⟩⟩
def keyU : Key → U
  | .inl i => .d (.int i)
  | .inr s => .d (.str s)
theorem keyU_v {w : Wd} {k : Key} {v : V} (r : RU w (keyU k) v) : v = kV k := by
  cases k with
  | inl i => cases (show Rp w.F (.int i) v from r); rfl
  | inr s => cases (show Rp w.F (.str s) v from r); rfl
/-- each key once -/
def uniq (ks : List Key) : List Key := ks.foldl (fun acc k => if inK acc k = true then acc else acc ++ [k]) []
theorem uniq_snoc (ks : List Key) (k : Key) : uniq (ks ++ [k]) = if inK (uniq ks) k = true then uniq ks else uniq ks ++ [k] := by unfold uniq; rw [List.foldl_append]; rfl
theorem uniq_mem (j : Key) (ks : List Key) : j ∈ uniq ks ↔ j ∈ ks := by
  have go : ∀ r : List Key, (j ∈ uniq r.reverse ↔ j ∈ r.reverse) := fun r => by
    induction r with
    | nil => exact Iff.rfl
    | cons k r ih =>
      rw [List.reverse_cons, uniq_snoc]
      by_cases h : k ∈ uniq r.reverse
      · rw [if_pos (inK_iff.mpr h), List.mem_append, ih]
        refine ⟨.inl, fun q => q.elim id fun q => ?_⟩
        rw [List.mem_singleton.mp q] at ih ⊢
        exact ih.mp h
      · rw [if_neg (fun q => h (inK_iff.mp q)), List.mem_append, List.mem_append, ih]
  have := go ks.reverse
  rwa [List.reverse_reverse] at this
theorem uniq_len (ks : List Key) : (uniq ks).length ≤ ks.length := by
  have go : ∀ r : List Key, (uniq r.reverse).length ≤ r.length := fun r => by
    induction r with
    | nil => exact Nat.le_refl _
    | cons k r ih =>
      rw [List.reverse_cons, uniq_snoc]
      by_cases h : k ∈ uniq r.reverse
      · rw [if_pos (inK_iff.mpr h), List.length_cons]; omega
      · rw [if_neg (fun q => h (inK_iff.mp q)), List.length_append, List.length_singleton, List.length_cons]; omega
  have := go ks.reverse
  rwa [List.reverse_reverse, List.length_reverse] at this
theorem uniq_nodup (ks : List Key) : (uniq ks).Nodup := by
  have go : ∀ r : List Key, (uniq r.reverse).Nodup := fun r => by
    induction r with
    | nil => exact List.nodup_nil
    | cons k r ih =>
      rw [List.reverse_cons, uniq_snoc]
      by_cases h : k ∈ uniq r.reverse
      · rw [if_pos (inK_iff.mpr h)]; exact ih
      · rw [if_neg (fun q => h (inK_iff.mp q))]
        exact List.nodup_append.mpr ⟨ih, by simp, fun x hx y hy e => h (by rw [← List.mem_singleton.mp hy, ← e]; exact hx)⟩
  have := go ks.reverse
  rwa [List.reverse_reverse] at this
/-- the code's own set beside the cells -/
structure PrvS (P : Program) (W : World) (w : Wd) (H : Hp) (D : Addr) (acc : List U) : Prop where
  at_ : ∃ ks : List Key, acc = ks.map keyU ∧ H D = some (SetK P W D (inK ks) (uniq ks).length)
  F : w.F D = none
  th : D ∉ w.th
theorem PrvS.step {P : Program} {W : World} {w w' : Wd} {H H' : Hp} {D : Addr} {acc : List U} (p : PrvS P W w H D acc) (s : Step w H w' H') : PrvS P W w' H' D acc := by
  obtain ⟨ks, h1, h2⟩ := p.at_
  refine ⟨⟨ks, h1, s.fr _ _ h2 p.th⟩, ?_, fun m => ?_⟩
  · cases e : w'.F D with
    | none => rfl
    | some o =>
      rcases s.own D o p.F e with q | q
      · rw [h2] at q; cases q
      · exact absurd q p.th
  · obtain ⟨t, e, ht⟩ := s.th
    rw [e] at m
    rcases List.mem_append.mp m with q | q
    · exact p.th q
    · have := ht D q
      rw [h2] at this; cases this
theorem PrvS.add {P : Program} {W : World} {w : Wd} {H : Hp} {D : Addr} {ks : List Key} (k : Key) (h1 : w.F D = none) (h2 : D ∉ w.th) :
    PrvS P W w (upd H D (SetK P W D (fun j => inK ks j || decide (j = k)) (if inK ks k = true then (uniq ks).length else (uniq ks).length + 1))) D ((ks ++ [k]).map keyU) := by
  refine ⟨⟨ks ++ [k], rfl, ?_⟩, h1, h2⟩
  rw [upd_same]
  have e1 : (fun j => inK ks j || decide (j = k)) = inK (ks ++ [k]) := funext fun j => by
    rw [Bool.eq_iff_iff, Bool.or_eq_true, inK_iff, inK_iff, decide_eq_true_eq, List.mem_append, List.mem_singleton]
  have e2 : (if inK ks k = true then (uniq ks).length else (uniq ks).length + 1) = (uniq (ks ++ [k])).length := by
    rw [uniq_snoc]
    by_cases h : k ∈ ks
    · rw [if_pos (inK_iff.mpr h), if_pos (inK_iff.mpr ((uniq_mem k ks).mpr h))]
    · rw [if_neg (fun q => h (inK_iff.mp q)), if_neg (fun q => h ((uniq_mem k ks).mp (inK_iff.mp q))), List.length_append, List.length_singleton]
  rw [e1, e2]
/-- one clause: the test, the key -/
def kKey (wt : WT) (we : WE) : WK := fun ρ M acc Q => wt ρ M fun b M2 => if b = true then we ρ M2 fun x M3 => acc.length + 1 < scanBound ∧ (∃ k, x = keyU k) ∧ Q (acc ++ [x]) M3 else Q acc M2
def LKS (P : Program) (W : World) (D : Addr) (f : L2.St → Hp → (Hp → Prop) → Prop) (k : WK) : Prop := ∀ ⦃w : Wd⦄ ⦃M : List Ob⦄ ⦃H : Hp⦄ ⦃σ : L2.St⦄ ⦃ρ : Rho⦄ ⦃acc : List U⦄ ⦃Qu : List U → List Ob → Prop⦄ ⦃N : Hp → Prop⦄, Hold w M H → Env w σ ρ → PrvS P W w H D acc → k ρ M acc Qu →
  (∀ (acc' : List U) (M' : List Ob) (w' : Wd) (H' : Hp), (∀ {w0 : Wd} {H0 : Hp}, H0 D = none → Step w0 H0 w H → Step w0 H0 w' H') → Grow w w' → Hold w' M' H' → PrvS P W w' H' D acc' → Qu acc' M' → N H') → f σ H N
theorem lks_key {P : Program} {W : World} {D : Addr} {tt : TT} {te : TE} {wt : WT} {we : WE} (ht : LT tt wt) (he : LE te we) : LKS P W D (fAddK P W D tt te) (kKey wt we) := fun w M H σ ρ acc Qu N h e p hq o =>
  ht h e hq fun b M2 c w2 H2 s2 h2 r2 q2 => by
    have r : b = c := r2
    subst r
    cases b with
    | false => exact o _ _ _ _ (fun _ s => s.trans h s2) s2.grow h2 (p.step s2) q2
    | true =>
      refine he h2 (e.grow s2.grow) q2 fun x M3 y w3 H3 s3 h3 r3 q3 => ?_
      have s23 := s2.trans h2 s3
      have p3 := p.step s23
      obtain ⟨hl, ⟨k, rfl⟩, q⟩ := q3
      obtain ⟨ks, rfl, hv⟩ := p3.at_
      have hu := uniq_len ks
      rw [List.length_map] at hl
      refine ⟨k, _, _, keyU_v r3, hv, by omega, ?_⟩
      exact o ((ks ++ [k]).map keyU) M3 w3 _ (fun hD s => (s.trans h s23).prv hD) s23.grow (h3.prv p3.F p3.th) (PrvS.add k p3.F p3.th) (by rw [List.map_append]; exact q)
theorem loopS_ok {P : Program} {W : World} {D : Addr} {J : It} {g : TG} {wg : WG} {f : L2.St → Hp → (Hp → Prop) → Prop} {k : WK} {vs : List Nat} {σ : L2.St} {ρ : Rho} {us acc : List U} {G : List Ob → Prop} {w1 : Wd} {M1 : List Ob} {H1 : Hp} {Qu : List U → List Ob → Prop} {Qd : Hp → Prop}
    (hg : LGv vs g wg) (hk : LKS P W D f k) (h1 : Hold w1 M1 H1) (e : Env w1 σ ρ) (p : PrvS P W w1 H1 D acc) (j : JOk w1 J us G) (q : wLcGo G wg k (wipeR ρ vs) us acc M1 Qu)
    (o : ∀ (acc' : List U) (M' : List Ob) (w' : Wd) (H' : Hp), (∀ {w0 : Wd} {H0 : Hp}, H0 D = none → Step w0 H0 w1 H1 → Step w0 H0 w' H') → Grow w1 w' → Hold w' M' H' → PrvS P W w' H' D acc' → Qu acc' M' → Qd H') :
    ∃ Wi : Nat → Nat → Hp → Prop, (∃ m, Wi 0 m H1) ∧ fLoop D J g σ vs f Qd Wi := by
  refine ⟨fun i m H' => m = us.length - i ∧ ∃ w' M' acc', (∀ {w0 : Wd} {H0 : Hp}, H0 D = none → Step w0 H0 w1 H1 → Step w0 H0 w' H') ∧ Grow w1 w' ∧ Hold w' M' H' ∧ PrvS P W w' H' D acc' ∧ wLcGo G wg k (wipeR ρ vs) (us.drop i) acc' M' Qu,
    ⟨us.length, by simp, w1, M1, acc, fun _ s => s, Grow.refl _, h1, p, q⟩, ?_⟩
  rintro i m H' ⟨hm, w', M', acc', s', g', h', p', q'⟩
  by_cases hi' : i < us.length
  · right
    have hG := wLcGo_G q'
    rw [List.drop_eq_getElem_cons hi'] at q'
    refine ⟨j.go i g' h' hG hi', fun H2 => ∃ w2 M2 acc2, (∀ {w0 : Wd} {H0 : Hp}, H0 D = none → Step w0 H0 w1 H1 → Step w0 H0 w2 H2) ∧ Grow w1 w2 ∧ Hold w2 M2 H2 ∧ PrvS P W w2 H2 D acc2 ∧ wLcGo G wg k (wipeR ρ vs) (us.drop (i + 1)) acc2 M2 Qu, ?_, fun v H2 y => ?_⟩
    · rintro H2 ⟨w2, M2, acc2, z⟩
      exact ⟨us.length - (i + 1), by omega, rfl, w2, M2, acc2, z⟩
    · obtain ⟨w2, s2, h2, r2⟩ := j.yld i g' h' hG (List.getElem?_eq_getElem hi') y
      have g2 := g'.trans s2.grow
      refine hg h2 ((e.wipe vs).grow g2) r2 q'.2 fun ρ3 M3 σ3 w3 H3 s3 h3 e3 z3 q3 => ?_
      have s23 := s2.trans h2 s3
      refine ⟨z3.trans ?_, hk h3 e3 (p'.step s23) q3 fun acc4 M4 w4 H4 s4 g4 h4 p4 q4 => ⟨w4, M4, acc4, fun hD s => s4 hD ((s' hD s).trans h' s23), (g2.trans s3.grow).trans g4, h4, p4, q4⟩⟩
      have ww : ∀ (vs us : List Nat) (τ : L2.St), (∀ i ∈ us, i ∈ vs) → wipe (wipe τ us) vs = wipe τ vs := by
        intro vs us
        induction us with
        | nil => intro τ _; rfl
        | cons u us ih =>
          intro τ hu
          show wipe ((wipe τ us).set u none) vs = wipe τ vs
          rw [wipe_set (hu u List.mem_cons_self), ih τ fun i hi => hu i (List.mem_cons_of_mem _ hi)]
      exact ww vs vs σ fun _ h => h
  · left
    rw [List.drop_of_length_le (by omega)] at q'
    exact ⟨j.stop i g' h' q'.1 (by omega), o _ _ _ _ s' g' h' p' q'.2⟩
/-- len of it -/
def rLenK (P : Program) (W : World) : List V → Hp → VK → Prop := fun xs H Q => ∃ a S n, xs = [.ref a] ∧ H a = some (SetK P W a S n) ∧ n < scanBound ∧ Q (.int (n : Nat)) H
theorem call_lenK {X : Cx} : CallR X (.builtin "len") (rLenK X.prog X.w) := by
  intro pins s σ H xs us Q I rv h
  obtain ⟨a, S, n, rfl, ha, hn, q⟩ := h
  cases rv with
  | cons r t =>
    cases t
    cases r
    obtain ⟨o, es, ep, tb, ho, hx, hd, _, _, _, hf, he⟩ := setK_get I ha
    exact call_len_set ho hx hd hf (by rw [he]; unfold scanBound at hn; omega) ⟨.int (n : Nat), H, I.tok _, ⟨_, by rw [he]⟩, q⟩
def wFewK (ww : WI) (wg : WG) (k : WK) (vs : List Nat) : WE := fun ρ M Q => ww ρ M fun us G M1 => wLcGo G wg k (wipeR ρ vs) us [] M1 fun acc M2 => ∃ ks, acc = ks.map keyU ∧ ks.length < scanBound ∧ Q (.d (.int ((uniq ks).length : Nat))) M2
theorem le_fewK {P : Program} {W : World} {wi : TI} {ww : WI} {g : TG} {wg : WG} {tt : TT} {wt : WT} {te : TE} {we : WE} {vs : List Nat} (hi : LI wi ww) (hg : LGv vs g wg) (ht : LT tt wt) (he : LE te we) :
    LE (tCB (rLenK P W) (tCons (tScK P W wi g tt te vs) tNil)) (wFewK ww wg (kKey wt we) vs) := fun w M H σ ρ Qu Q h e hq o =>
  hi h e hq fun us G M1 J w1 H1 s1 h1 j q D hD => by
    have hD0 : H D = none := s1.none_back h1 hD
    have F0 := h1.newF hD
    have t0 := h1.off hD
    have p0 : PrvS P W w1 (upd H1 D (SetK P W D (fun _ => false) 0)) D [] := ⟨⟨[], rfl, by rw [upd_same]; rfl⟩, F0, t0⟩
    refine loopS_ok hg (lks_key ht he) (h1.prv F0 t0) (e.grow s1.grow) p0 j q fun acc' M' w' H' s' g' h' p' q' => ?_
    obtain ⟨ks, rfl, hks, qq⟩ := q'
    obtain ⟨ks', e1, e2⟩ := p'.at_
    have inj : ks = ks' := by
      have : ∀ a b : List Key, a.map keyU = b.map keyU → a = b := fun a => by
        induction a with
        | nil => intro b hb; cases b with
          | nil => rfl
          | cons y b => cases hb
        | cons x a ih =>
          intro b hb
          cases b with
          | nil => cases hb
          | cons y b =>
            rw [List.map_cons, List.map_cons] at hb
            injection hb with z1 z2
            rw [ih b z2]
            congr 1
            cases x <;> cases y <;> cases z1 <;> rfl
      exact this _ _ e1
    subst inj
    have hu := uniq_len ks
    show rLenK P W [.ref D] H' Q
    refine ⟨D, _, _, rfl, e2, by omega, ?_⟩
    exact o _ _ _ _ _ (s' hD0 (s1.prv hD0)) h' (RU.D (.int _)) qq
end DL
namespace DL
open PySem L2 PySem.Spec PyProof.Rows
/-! ### l.count(x) of data -/
def rCntD (K : PySem.W.Frag) : V → List V → Hp → VK → Prop := fun x xs H Q => ∃ y d ds, xs = [y] ∧ Dp K H y d ∧ Dp K H x (.list ds) ∧ PyData.plainAll ds = true ∧ d.plain = true ∧ d.depth ≤ 60 ∧ Q (.int ((ds.countP fun z => PyData.eqv z d : Nat) : Int)) H
theorem mt_countD {X : Cx} (hu : X.A.units + 64 < cLine) : MtR X "list.count" (rCntD X.K) := by
  intro pins s σ H x xs v us Q I rx rxs h
  obtain ⟨y, d, ds, rfl, hy, hx, h1, h2, h3, q⟩ := h
  cases hx with
  | lst hs r =>
    cases rx
    obtain ⟨u, rfl, ru⟩ := rxs.one
    obtain ⟨as, ra⟩ := Dp.reads I d _ _ hy ru
    obtain ⟨its, rv, pl, _⟩ := I.list hs
    obtain ⟨bs, rb⟩ := Dp.readsAll I ds _ _ r rv
    exact SeqAt.count_list_data (vs := its.toArray) pl.isList (by simpa using rb) ra h1 h2 (by omega) ⟨.int _, H, I.tok _, ⟨_, rfl⟩, q⟩
def wCntD : WM := fun x ys M Q => ∃ u d ds, ys = [u] ∧ view M u = some d ∧ view M x = some (.list ds) ∧ PyData.plainAll ds = true ∧ d.plain = true ∧ d.depth ≤ 60 ∧ Q (.d (.int ((ds.countP fun z => PyData.eqv z d : Nat) : Int))) M
theorem lm_cntD {K : PySem.W.Frag} : LM (rCntD K) wCntD := fun w M H x vx ys vs Qu Q h rx rs hq o => by
  obtain ⟨u, d, ds, rfl, hu, hx, h1, h2, h3, q⟩ := hq
  obtain ⟨v, rfl, r⟩ := rus1 rs
  exact ⟨v, d, ds, rfl, Vw.dp h.sub (view_ok h r hu), Vw.dp h.sub (view_ok h rx hx), h1, h2, h3, o.here h (RU.D (.int _)) q⟩
theorem x_countD {X : Cx} {K : PySem.W.Frag} {k : Nat} (h : X.K = K) (hr : Room k X.A) : MtR X "list.count" (rCntD K) := h ▸ mt_countD (hu64 hr)
end DL

namespace DL
open PySem L2 PySem.Spec PyProof.Rows
/-! ### instances: cells with attributes -/
def lookF (fs : List (Str × U)) (f : Str) : Option U := (fs.find? fun p => decide (p.1 = f)).map (·.2)
def putFU (f : Str) (u : U) : List (Str × U) → List (Str × U)
  | [] => [(f, u)]
  | (g, x) :: r => if g = f then (g, u) :: r else (g, x) :: putFU f u r
abbrev FRel (w : Wd) : List (Str × U) → List (Str × V) → Prop := Paired fun p q => p.1 = q.1 ∧ RU w p.2 q.2
theorem lookF_cons (g f : Str) (x : U) (fs : List (Str × U)) : lookF ((g, x) :: fs) f = if g = f then some x else lookF fs f := by
  unfold lookF
  rw [List.find?_cons]
  by_cases h : g = f
  · rw [decide_eq_true h, if_pos h]; rfl
  · rw [decide_eq_false h, if_neg h]
theorem lookF_ok {w : Wd} {fs : List (Str × U)} {gs : List (Str × V)} (r : FRel w fs gs) {f : Str} : (∀ u, lookF fs f = some u → ∃ v, gs.lookup f = some v ∧ RU w u v) ∧ (lookF fs f = none → gs.lookup f = none) := by
  induction r with
  | nil => exact ⟨fun u h => (by cases h), fun _ => rfl⟩
  | @cons p q ps qs h t ih =>
    obtain ⟨g, x⟩ := p
    obtain ⟨g', v⟩ := q
    obtain ⟨e, ru⟩ := h
    have e' : g = g' := e
    subst e'
    rw [lookF_cons, List.lookup_cons]
    by_cases hg : g = f
    · subst hg
      rw [if_pos rfl, beq_self_eq_true]
      exact ⟨fun u hu => by cases hu; exact ⟨v, rfl, ru⟩, fun hu => (by cases hu)⟩
    · have e1 : (f == g) = false := by simpa using fun q => hg q.symm
      rw [if_neg hg, e1]
      exact ih
theorem putF_ok {w : Wd} {fs : List (Str × U)} {gs : List (Str × V)} (r : FRel w fs gs) {f : Str} {u : U} {v : V} (ru : RU w u v) : FRel w (putFU f u fs) (putF f v gs) := by
  induction r with
  | nil => exact .cons ⟨rfl, ru⟩ .nil
  | @cons p q ps qs h t ih =>
    obtain ⟨g, x⟩ := p
    obtain ⟨g', y⟩ := q
    obtain ⟨e, rx⟩ := h
    have e' : g = g' := e
    subst e'
    unfold putFU putF
    by_cases hg : g = f
    · rw [if_pos hg, if_pos hg]; exact .cons ⟨rfl, ru⟩ t
    · rw [if_neg hg, if_neg hg]; exact .cons ⟨rfl, rx⟩ ih
section
variable {K : PySem.W.Frag} {C : Addr} {te tv ta : TE} {we wv wa : WE} {tr : TA} {wr : WA}
/-- e.f -/
def wFld (C : Addr) (f : Str) (we : WE) : WE := fun ρ M Q => we ρ M fun x M1 => ∃ n fs u, x = .p n ∧ M1[n]? = some (.ins C fs) ∧ lookF fs f = some u ∧ Q u M1
theorem le_fld {f : Str} (c : Cls K C) (nf : NoAttr K C f) (he : LE te we) : LE (tFld K te f) (wFld C f we) := fun _ _ _ _ _ _ _ h e hq o =>
  he h e hq fun x M1 v w1 H1 s1 h1 r1 q1 => by
    obtain ⟨n, fs, u, rfl, hm, hf, q⟩ := q1
    obtain ⟨a, ob, rfl, ha, ho, dx, gs, rfl, r⟩ := cell_at h1 r1 hm (fun q => nomatch q)
    obtain ⟨v, hv, ru⟩ := (lookF_ok r).1 u hf
    exact ⟨a, C, dx, gs, v, rfl, ho, c, nf, hv, (o.trans s1 h1).here h1 ru q⟩
/-- e.f = v -/
def wSetF (C : Addr) (f : Str) (wa wv : WE) : WS := fun De ρ M => wv ρ M fun y M1 => wa ρ M1 fun x M2 => ∃ n fs, x = .p n ∧ M2[n]? = some (.ins C fs) ∧ fs.length < 1000 ∧ De.nx ρ (M2.set n (.ins C (putFU f y fs)))
theorem ls_setF {f : Str} (c : Cls K C) (nf : NoAttr K C f) (ha : LE ta wa) (hv : LE tv wv) : LS (sFld K ta tv f) (wSetF C f wa wv) := fun _ _ _ _ _ _ _ h e hq o =>
  hv h e hq fun y M1 v w1 H1 s1 h1 r1 q1 => ha h1 (e.grow s1.grow) q1 fun x M2 v2 w2 H2 s2 h2 r2 q2 => by
    obtain ⟨n, fs, rfl, hm, hl, q⟩ := q2
    obtain ⟨a, ob, rfl, haa, ho, dx, gs, rfl, r⟩ := cell_at h2 r2 hm (fun q => nomatch q)
    refine ⟨a, C, dx, gs, rfl, ho, c, nf, by rw [← Paired.length r]; exact hl, ?_⟩
    exact o.nx _ _ _ _ _ ((s1.trans h1 s2).trans h2 (Step.set haa)) (h2.set haa hm (fun q => nomatch q) (show RO _ (.ins C (putFU f y fs)) _ from ⟨dx, _, rfl, putF_ok r (r1.grow s2.grow)⟩)) ((e.grow s1.grow).grow s2.grow) q
/-- what a call with cells asks -/
def cC (is : List Nat) (d : DSp) (dv : List PyData) (us : List U) (M1 : List Ob) (Q : U → List Ob → Prop) : Prop := nodB is = true ∧ allB is M1.length = true ∧ (us.map (rnU (inN is))).map (rnU (outN is M1.length)) = us ∧
  (is.map fun i => rnO (inN is) (M1.getD i .dead)).map (rnO (outN is M1.length)) = (is.map fun i => M1.getD i .dead) ∧
  d (us.map (rnU (inN is)) ++ dv.map U.d) (is.map fun i => rnO (inN is) (M1.getD i .dead)) fun u Mc => Q (rnU (outN is M1.length) u) (wback M1 is (Mc.map (rnO (outN is M1.length))))
theorem cC_ok {is : List Nat} {d : DSp} {dvs : List V} {dv : List PyData} {E : XK} {w1 : Wd} {M1 : List Ob} {H1 : Hp} {us : List U} {vs : List V} {Qu : U → List Ob → Prop} {Q : VK} (hd : ∀ w : Wd, RUs w (dv.map U.d) dvs) (h1 : Hold w1 M1 H1) (r1 : RUs w1 us vs) (q1 : cC is d dv us M1 Qu) (o : Out RU w1 H1 Qu Q) : liftSp d (vs ++ dvs) H1 Q E := by
  obtain ⟨nd', hi', hu, hc, q⟩ := q1
  have nd := nodB_ok nd'
  have hi := allB_ok hi'
  have hl : ∀ i ∈ is, i < w1.th.length := fun i m => by rw [h1.len]; exact hi i m
  refine ⟨_, _, _, _, call_into h1 nd hi hc, ?_, q, fun u Mc v w2 H2 s2 h2 r2 q2 => ?_⟩
  · refine rus_app ?_ (hd _)
    rw [← hu] at r1
    exact mapP2 r1 fun a c r => by
      rw [← h1.len] at r
      exact RU.into hl r
  · obtain ⟨t, ew, h3, s3⟩ := call_back h1 nd hi s2 h2
    refine o _ _ _ _ _ s3 h3 ?_ q2
    rw [ew] at r2
    rw [← h1.len]
    exact RU.back hl r2
/-- o.m(..) -/
def wMeth (C : Addr) (m : Str) (is : List Nat) (d : DSp) (dv : List PyData) (we : WE) (wr : WA) : WE := fun ρ M Q => we ρ M fun x M1 => ∃ n fs, x = .p n ∧ M1[n]? = some (.ins C fs) ∧ lookF fs m = none ∧ wr ρ M1 fun us M2 => cC is d dv (x :: us) M2 Q
theorem le_meth {m : Str} {is : List Nat} {d : DSp} {dvs : List V} {dv : List PyData} {E : XK} (hd : ∀ w : Wd, RUs w (dv.map U.d) dvs) (he : LE te we) (hr : LA tr wr) : LE (tMeth C m (liftSp d) dvs E te tr) (wMeth C m is d dv we wr) := fun _ _ _ _ _ _ _ h e hq o =>
  he h e hq fun x M1 v w1 H1 s1 h1 r1 q1 => by
    obtain ⟨n, fs, rfl, hm, hf, q⟩ := q1
    obtain ⟨a, ob, rfl, ha, ho, dx, gs, rfl, r⟩ := cell_at h1 r1 hm (fun q => nomatch q)
    refine ⟨a, dx, gs, rfl, ho, (lookF_ok r).2 hf, hr h1 (e.grow s1.grow) q fun us M2 vs w2 H2 s2 h2 r2 q2 => ?_⟩
    exact cC_ok (us := .p n :: us) (vs := .ref a :: vs) hd h2 (.cons (r1.grow s2.grow) r2) q2 ((o.trans s1 h1).trans s2 h2)
/-- C(..): a new instance -/
def wMake (C : Addr) (d : DSp) (dv : List PyData) (wr : WA) : WE := fun ρ M Q => wr ρ M fun us M1 => cC [M1.length] d dv (.p M1.length :: us) (M1 ++ [.ins C []]) fun u M2 => u = .d .none ∧ Q (.p M1.length) M2
theorem le_make {d : DSp} {dvs : List V} {dv : List PyData} {E : XK} (hd : ∀ w : Wd, RUs w (dv.map U.d) dvs) (hr : LA tr wr) : LE (tMake C (liftSp d) dvs E tr) (wMake C d dv wr) := fun _ _ _ _ _ _ _ h e hq o =>
  hr h e hq fun us M1 vs w1 H1 s1 h1 r1 q1 x dx hx hdx hne => by
    have hd' := h1.put hdx (o := .own x)
    have sd : Step w1 H1 (w1.put dx (.own x)) (upd H1 dx (.own x)) := Step.put h1 hdx
    have hx' : (upd H1 dx (.own x)) x = none := by rw [upd_ne hne.symm]; exact hx
    have hc := hd'.cell' hx' (m := .ins C []) (o := .ins C dx []) ⟨dx, [], rfl, .nil⟩
    have sc : Step (w1.put dx (.own x)) (upd H1 dx (.own x)) ((w1.put dx (.own x)).cell x) (upd (upd H1 dx (.own x)) x (.ins C dx [])) := Step.cell hd' hx'
    have s12 := sd.trans hd' sc
    have rx : RU ((w1.put dx (.own x)).cell x) (.p M1.length) (.ref x) := RU.P (Wd.cell_at hd')
    refine cC_ok (us := .p M1.length :: us) (vs := .ref x :: vs) hd hc (.cons rx (RUs.grow s12.grow r1)) q1 fun u M2 v w2 H2 s2 h2 r2 q2 => ?_
    obtain ⟨rfl, q⟩ := q2
    refine ⟨by cases (show Rp w2.F .none v from r2); rfl, ?_⟩
    exact (o.trans s1 h1) _ _ _ _ _ (s12.trans hc s2) h2 (rx.grow s2.grow) q
end
/-! ### a local that holds a def -/
def lookA (tbl : List (Addr × DSp)) (f : Addr) : Option DSp := (tbl.find? fun p => decide (p.1 = f)).map (·.2)
def tblS (tbl : List (Addr × DSp)) : Addr → Option Sp := fun f => (lookA tbl f).map liftSp
def wCallA (i : Nat) (tbl : List (Addr × DSp)) (wr : WA) : WE := fun ρ M Q => ∃ f d, ρ[i]? = some (some (.v (.ref f))) ∧ lookA tbl f = some d ∧ wr ρ M fun us M1 => ∃ ds, dats us = some ds ∧ d (ds.map U.d) [] fun u Mc => ∃ z, u = .d z ∧ Q (.d z) M1
theorem le_callA {i : Nat} {tbl : List (Addr × DSp)} {tr : TA} {wr : WA} (hr : LA tr wr) : LE (tCallA i (tblS tbl) tr) (wCallA i tbl wr) := fun w M H σ ρ Qu Q h e hq o => by
  obtain ⟨f, d, hf, hd, q⟩ := hq
  obtain ⟨v, hv, rv⟩ := e.at_ i _ hf
  have rv' : v = .ref f := rv
  subst rv'
  refine ⟨f, liftSp d, hv, by unfold tblS; rw [hd]; rfl, hr h e q fun us M1 vs w1 H1 s1 h1 r1 q1 => ?_⟩
  obtain ⟨ds, e1, q2⟩ := q1
  refine ⟨⟨w1.F, []⟩, [], _, _, pure_call h1, ?_, q2, fun u Mc v w2 H2 s2 h2 r2 q3 => ?_⟩
  · exact RUs.of (w := ⟨w1.F, []⟩) (show RpL w1.F ds vs from dats_ok r1 e1)
  · obtain ⟨z, rfl, q3⟩ := q3
    obtain ⟨h3, s3⟩ := pure_back h1 s2 h2
    exact (o.trans s1 h1) _ _ _ _ _ s3 h3 (RU.D (show Rp w2.F z v from r2)) q3
theorem tblS_nil {X : Cx} {k : Nat} : ∀ f sp, tblS [] f = some sp → Held X.prog X.w X.K X.mg X.base k f sp := fun f sp h => by cases h
theorem tblS_cons {X : Cx} {k : Nat} {f0 : Addr} {d0 : DSp} {tbl : List (Addr × DSp)} (h0 : Held X.prog X.w X.K X.mg X.base k f0 (liftSp d0)) (ht : ∀ f sp, tblS tbl f = some sp → Held X.prog X.w X.K X.mg X.base k f sp) : ∀ f sp, tblS ((f0, d0) :: tbl) f = some sp → Held X.prog X.w X.K X.mg X.base k f sp := fun f sp h => by
  unfold tblS lookA at h
  rw [List.find?_cons] at h
  by_cases hf : f0 = f
  · subst hf
    rw [decide_eq_true rfl] at h
    cases h
    exact h0
  · rw [decide_eq_false hf] at h
    exact ht f sp h
/-- a def out of a written dict of defs -/
abbrev WrDf : PySem.W.Frag → World → Addr → List (Str × Addr) → Prop := WrDg V.ref
def wGetF (a : Addr) (kvs : List (Str × Addr)) : R2' := fun x y M Q => x = .v (.ref a) ∧ ∃ z f, view M y = some (.str z) ∧ kvs.lookup z = some f ∧ Q (.v (.ref f)) M
theorem lr_getKf {K : PySem.W.Frag} {w : World} {a : Addr} {kvs : List (Str × Addr)} (D : WrDf K w a kvs) : LR (rIxD K w) (wGetF a kvs) := fun w M H x y vx vy Qu Q hh rx ry hq o => by
  obtain ⟨rfl, z, f, ez, hi, q⟩ := hq
  have ex : vx = .ref a := rx
  subst ex
  have ey := vw_str (view_ok hh ry ez)
  subst ey
  obtain ⟨r, h1, h2, h3⟩ := wrD_at D z
  obtain ⟨u, rfl, ru⟩ := h3 f hi
  obtain ⟨es, n, D, _⟩ := D
  exact ⟨a, z, .ref f, rfl, rfl, ⟨es, n, u, D.at_, D.lit, h1, ru⟩, o.here hh (RU.V') q⟩
/-! ### del d[k] -/
def dropD (kvs : List (Key × PyData)) (k : Key) : List (Key × PyData) := kvs.filter fun kv => decide (kv.1 ≠ k)
theorem dropD_ok {F : Hp} {kvs : List (Key × PyData)} {ks : List (Key × V)} (r : KRel F kvs ks) (k : Key) : KRel F (dropD kvs k) (dropK ks k) := by
  induction r with
  | nil => exact .nil
  | @cons p q ps qs h t ih =>
    obtain ⟨kp, x⟩ := p
    obtain ⟨kq, y⟩ := q
    obtain ⟨e, rx⟩ := h
    have e' : kp = kq := e
    subst e'
    unfold dropD dropK at ih ⊢
    rw [List.filter_cons, List.filter_cons]
    by_cases hk : kp = k
    · rw [if_neg (by simpa using hk), if_neg (by simpa using hk)]; exact ih
    · rw [if_pos (by simpa using hk), if_pos (by simpa using hk)]; exact .cons ⟨rfl, rx⟩ ih
def wDDel (we wy : WE) : WS := fun De ρ M => we ρ M fun x M1 => wy ρ M1 fun y M2 => ∃ n kvs e k, x = .p n ∧ M2[n]? = some (.dic kvs) ∧ view M2 y = some e ∧ keyD e = some k ∧ (valD kvs k).isSome = true ∧ De.nx ρ (M2.set n (.dic (dropD kvs k)))
theorem ls_ddel {te ty : TE} {we wy : WE} (he : LE te we) (hy : LE ty wy) : LS (sDDel te ty) (wDDel we wy) := fun _ _ _ _ _ _ _ h e hq o =>
  he h e hq fun x M1 v w1 H1 s1 h1 r1 q1 => hy h1 (e.grow s1.grow) q1 fun y M2 v2 w2 H2 s2 h2 r2 q2 => by
    obtain ⟨n, kvs, ey, k, rfl, hm, hv, hk, hs, q⟩ := q2
    obtain ⟨a, ob, rfl, ha, ho, ks, rfl, r⟩ := cell_at h2 (r1.grow s2.grow) hm (fun q => nomatch q)
    have ek := keyD_ok (view_ok h2 r2 hv) hk
    subst ek
    refine ⟨a, ks, k, rfl, ho, rfl, by rw [isSome_rel r k]; exact hs, ?_⟩
    exact o.nx _ _ _ _ _ ((s1.trans h1 s2).trans h2 (Step.set ha)) (h2.set ha hm (fun q => nomatch q) (RO.Dic (dropD_ok r k))) ((e.grow s1.grow).grow s2.grow) q
/-! ### xs * n: a new cell -/
def wMulC : R2' := fun x y M Q => ∃ ds j, view M x = some (.list ds) ∧ view M y = some (.int j) ∧ -(2 ^ 63) ≤ j ∧ j < 2 ^ 63 ∧ ds.length * j.toNat ≤ sizeLine ∧ Q (.p M.length) (M ++ [.lst (List.replicate j.toNat ds).flatten])
theorem lr_mulC : LR rMulAll wMulC := fun w M H x y vx vy Qu Q h rx ry hq o => by
  obtain ⟨ds, j, ex, ey, h1, h2, h3, q⟩ := hq
  obtain ⟨p, vs, rfl, hp, r1⟩ := view_ok h rx ex
  have ey' := vw_int (view_ok h ry ey)
  refine .inr ⟨p, j, vs, rfl, ey', hp, h1, h2, by rw [← r1.length]; exact h3, fun l hl => ?_⟩
  exact o _ _ _ _ _ (Step.cell h hl) (h.cell' hl (RO.L (r1.flatRep _))) (RU.P (Wd.cell_at h)) q
/-! ### & | ^ -/
abbrev wAndI : R2' := wF2 (fII (fun i j => .int (Builtin.bitAnd i j)) fun _ _ => True)
abbrev wOrI : R2' := wF2 (fII (fun i j => .int (Builtin.bitOr i j)) fun _ _ => True)
abbrev wXorI : R2' := wF2 (fII (fun i j => .int (Builtin.bitXor i j)) fun _ _ => True)
theorem lr_andI : LR (rI0 fun i j => .int (Builtin.bitAnd i j)) wAndI := lr_I0 fun _ i j => .int _
theorem lr_orI : LR (rI0 fun i j => .int (Builtin.bitOr i j)) wOrI := lr_I0 fun _ i j => .int _
theorem lr_xorI : LR (rI0 fun i j => .int (Builtin.bitXor i j)) wXorI := lr_I0 fun _ i j => .int _
/-! ### a dict is locked while it is walked -/
def flatKv (kvs : List (Key × PyData)) : Bool := kvs.all fun p => flatD p.2
def vOf : PyData → V
  | .bool b => .bl b
  | .int i => .int i
  | .str x => .str x
  | _ => .non
theorem flat_v {F : Hp} {d : PyData} {v : V} (r : Rp F d v) (h : flatD d = true) : v = vOf d := by cases r <;> first | rfl | cases h
theorem flat_ks {F : Hp} {kvs : List (Key × PyData)} {ks : List (Key × V)} (r : KRel F kvs ks) (h : flatKv kvs = true) : ks = kvs.map fun p => (p.1, vOf p.2) := by
  induction r with
  | nil => rfl
  | @cons p q ps qs h1 t ih =>
    obtain ⟨kq, y⟩ := q
    obtain ⟨e, rx⟩ := h1
    have h' : flatD p.2 = true ∧ flatKv ps = true := by simpa [flatKv] using h
    have e' : p.1 = kq := e
    have ey : y = vOf p.2 := flat_v rx h'.1
    rw [List.map_cons, ih h'.2, e', ey]
def wLockE (we : WE) : WE := fun ρ M Q => ∃ n kvs, M[n]? = some (.dic kvs) ∧ flatKv kvs = true ∧ ∀ od, we ρ (M.set n (.lkd kvs od)) fun x M' => M'[n]? = some (.lkd kvs od) ∧ Q x (M'.set n (.dic kvs))
theorem Step.unset {w w' : Wd} {H H' : Hp} {a : Addr} {o o' : HO} {n : Nat} (ha : w.th[n]? = some a) {M1 : List Ob} (h1 : Hold w M1 (upd H a o)) (s : Step w (upd H a o) w' H') (hl : ∃ o, H a = some o) : Step w H w' (upd H' a o') := by
  have hm : a ∈ w.th := List.mem_of_getElem? ha
  refine ⟨s.F, ?_, fun b u e n => ?_, fun b u e1 e2 => ?_⟩
  · obtain ⟨t, e, ht⟩ := s.th
    refine ⟨t, e, fun b hb => ?_⟩
    have := ht b hb
    by_cases hb2 : b = a
    · subst hb2; rw [upd_same] at this; cases this
    · rw [upd_ne hb2] at this; exact this
  · have hb : b ≠ a := fun q => n (q ▸ hm)
    rw [upd_ne hb]
    exact s.fr b u (by rw [upd_ne hb]; exact e) n
  · rcases s.own b u e1 e2 with q | q
    · by_cases hb : b = a
      · subst hb; exact .inr hm
      · rw [upd_ne hb] at q; exact .inl q
    · exact .inr q
theorem le_lockE {te : TE} {we : WE} (he : LE te we) : LE (tLockE te) (wLockE we) := fun w M H σ ρ Qu Q h e hq o => by
  obtain ⟨n, kvs, hm, hf, q⟩ := hq
  have hn : n < w.th.length := by rw [h.len]; exact (List.getElem?_eq_some_iff.mp hm).1
  obtain ⟨a, ob, _, ha, ho, ks, rfl, r⟩ := cell_at h (RU.P (List.getElem?_eq_getElem hn)) hm (fun q => nomatch q)
  have eks := flat_ks r hf
  refine ⟨a, .dK ks, ho, trivial, fun od => ?_⟩
  have h1 := h.set ha hm (fun q => nomatch q) (m := .lkd kvs od) (o := .frz od (.dK ks)) ⟨ks, rfl, r⟩
  refine he h1 e (q od) fun x M' v w' H' s' h' r' q' => ?_
  have ha' : w'.th[n]? = some a := s'.grow.th n a ha
  obtain ⟨ob, e3, e4⟩ := h'.cell n a _ ha' q'.1
  rcases e4 with e4 | ⟨_, ks', rfl, r2⟩
  · cases e4
  · have e5 := flat_ks r2 hf
    rw [← eks] at e5
    subst e5
    refine ⟨e3, ?_⟩
    exact o _ _ _ _ _ (Step.unset ha h1 s' ⟨_, ho⟩) (h'.set ha' q'.1 (fun q => nomatch q) (RO.Dic r2)) r' q'.2
/-- the keys of a locked dict -/
def wIKeys (we : WE) : WI := fun ρ M Q => we ρ M fun x M1 => ∃ n kvs od, x = .p n ∧ M1[n]? = some (.lkd kvs od) ∧ flatKv kvs = true ∧ Q (kvs.map fun p => keyU p.1) (fun M' => M'[n]? = some (.lkd kvs od)) M1
theorem lkd_at {w : Wd} {M : List Ob} {H : Hp} (h : Hold w M H) {n : Nat} {a : Addr} {kvs : List (Key × PyData)} {od : Obj} (ha : w.th[n]? = some a) (hm : M[n]? = some (.lkd kvs od)) : ∃ ks, H a = some (.frz od (.dK ks)) ∧ KRel w.F kvs ks := by
  obtain ⟨ob, e3, e4⟩ := h.cell n a _ ha hm
  rcases e4 with e4 | ⟨_, ks', rfl, r2⟩
  · cases e4
  · exact ⟨ks', e3, r2⟩
theorem krel_get {F : Hp} : ∀ {kvs : List (Key × PyData)} {ks : List (Key × V)}, KRel F kvs ks → ∀ {i : Nat}, (∀ p, kvs[i]? = some p → ∃ v, ks[i]? = some (p.1, v) ∧ Rp F p.2 v)
  | _, _, .nil, i, p, h => by simp at h
  | (k, d) :: _, (k', v) :: _, .cons h t, 0, p, hp => by
    simp at hp; subst hp
    have e : k = k' := h.1
    subst e
    exact ⟨v, rfl, h.2⟩
  | _ :: _, _ :: _, .cons h t, i + 1, p, hp => by simpa using krel_get t (i := i) p (by simpa using hp)
theorem keyU_rel {w : Wd} (k : Key) : RU w (keyU k) (kV k) := by cases k <;> first | exact RU.D (.int _) | exact RU.D (.str _)
theorem j_keys {w : Wd} {n : Nat} {a : Addr} {kvs : List (Key × PyData)} {ks : List (Key × V)} {od : Obj} (ha : w.th[n]? = some a) (hf : flatKv kvs = true) (eks : ks = kvs.map fun p => (p.1, vOf p.2)) : JOk w (Itk a od ks) (kvs.map fun p => keyU p.1) fun M' => M'[n]? = some (.lkd kvs od) where
  stop := fun {w' M H} i g h hm hi => by
    obtain ⟨ks', h1, r⟩ := lkd_at h (g.th _ _ ha) hm
    have e := flat_ks r hf
    rw [← eks] at e; subst e
    exact ⟨h1, by rw [eks]; simpa using hi⟩
  go := fun {w' M H} i g h hm hi => by
    obtain ⟨ks', h1, r⟩ := lkd_at h (g.th _ _ ha) hm
    have e := flat_ks r hf
    rw [← eks] at e; subst e
    exact ⟨h1, by rw [eks]; simpa using hi⟩
  yld := fun {w' M H H' v u} i g h hm hu y => by
    obtain ⟨rfl, k, z, hk, rfl⟩ := y
    rw [List.getElem?_map] at hu
    cases e : kvs[i]? with
    | none => rw [e] at hu; cases hu
    | some p =>
      rw [e] at hu
      have hu' : keyU p.1 = u := Option.some.inj hu
      rw [eks, List.getElem?_map, e] at hk
      have hk' := Option.some.inj hk
      have e1 : p.1 = k := congrArg Prod.fst hk'
      subst hu'; subst e1
      exact ⟨w', Step.refl _ _, h, keyU_rel _⟩
theorem li_keys {te : TE} {we : WE} (he : LE te we) : LI (iKeys te) (wIKeys we) := fun _ _ _ _ _ _ _ h e hq k =>
  he h e hq fun x M1 v w1 H1 s1 h1 r1 q1 => by
    obtain ⟨n, kvs, od, rfl, hm, hf, q⟩ := q1
    obtain ⟨a, ha, rfl⟩ := r1
    obtain ⟨ks, ho, r⟩ := lkd_at h1 ha hm
    exact ⟨a, od, rfl, .inl ⟨ks, ho, k _ _ _ _ _ _ s1 h1 (j_keys ha hf (flat_ks r hf)) q⟩⟩
/-- the items of a locked dict -/
def kD : Key → PyData
  | .inl i => .int i
  | .inr s => .str s
theorem kD_rp {F : Hp} (k : Key) : Rp F (kD k) (kV k) := by cases k <;> first | exact .int _ | exact .str _
def itemsU (kvs : List (Key × PyData)) : List U := kvs.map fun p => .d (.tuple [kD p.1, p.2])
def wIItems (we : WE) : WI := fun ρ M Q => we ρ M fun x M1 => ∃ n kvs od, x = .p n ∧ M1[n]? = some (.lkd kvs od) ∧ flatKv kvs = true ∧ Q (itemsU kvs) (fun M' => M'[n]? = some (.lkd kvs od)) M1
theorem j_items {w : Wd} {n : Nat} {a : Addr} {kvs : List (Key × PyData)} {ks : List (Key × V)} {od : Obj} (ha : w.th[n]? = some a) (hf : flatKv kvs = true) (eks : ks = kvs.map fun p => (p.1, vOf p.2)) : JOk w (Iti a od ks) (itemsU kvs) fun M' => M'[n]? = some (.lkd kvs od) where
  stop := fun {w' M H} i g h hm hi => by
    obtain ⟨ks', h1, r⟩ := lkd_at h (g.th _ _ ha) hm
    have e := flat_ks r hf
    rw [← eks] at e; subst e
    exact ⟨h1, by rw [eks]; simpa [itemsU] using hi⟩
  go := fun {w' M H} i g h hm hi => by
    obtain ⟨ks', h1, r⟩ := lkd_at h (g.th _ _ ha) hm
    have e := flat_ks r hf
    rw [← eks] at e; subst e
    exact ⟨h1, by rw [eks]; simpa [itemsU] using hi⟩
  yld := fun {w' M H H' v u} i g h hm hu y => by
    obtain ⟨T, k, z, hk, rfl, hT, rfl⟩ := y
    obtain ⟨ks', h1, r⟩ := lkd_at h (g.th _ _ ha) hm
    have e0 := flat_ks r hf
    rw [← eks] at e0; subst e0
    unfold itemsU at hu
    rw [List.getElem?_map] at hu
    cases e : kvs[i]? with
    | none => rw [e] at hu; cases hu
    | some p =>
      rw [e] at hu
      have hu' : U.d (.tuple [kD p.1, p.2]) = u := Option.some.inj hu
      obtain ⟨v2, hv2, rv2⟩ := krel_get r p e
      rw [hv2] at hk
      have hk' := Option.some.inj hk
      have e1 : p.1 = k := congrArg Prod.fst hk'
      have e2 : v2 = z := congrArg Prod.snd hk'
      subst hu'; subst e1; subst e2
      have m := same_put (o := .tup [kV p.1, v2]) (h.newF hT)
      exact ⟨w'.put T _, Step.put h hT, h.put hT, RU.D (.tup Wd.putF (.cons (kD_rp _) (.cons (rv2.mono m) .nil)))⟩
theorem li_items {te : TE} {we : WE} (he : LE te we) : LI (iItems te) (wIItems we) := fun _ _ _ _ _ _ _ h e hq k =>
  he h e hq fun x M1 v w1 H1 s1 h1 r1 q1 => by
    obtain ⟨n, kvs, od, rfl, hm, hf, q⟩ := q1
    obtain ⟨a, ha, rfl⟩ := r1
    obtain ⟨ks, ho, r⟩ := lkd_at h1 ha hm
    exact ⟨a, od, ks, rfl, ho, k _ _ _ _ _ _ s1 h1 (j_items ha hf (flat_ks r hf)) q⟩
/-- d[y] of a locked dict -/
def wDGetL (we wy : WE) : WE := fun ρ M Q => we ρ M fun x M1 => wy ρ M1 fun y M2 => ∃ n kvs od e k d, x = .p n ∧ M2[n]? = some (.lkd kvs od) ∧ view M2 y = some e ∧ keyD e = some k ∧ valD kvs k = some d ∧ Q (.d d) M2
theorem le_dgetL {te ty : TE} {we wy : WE} (he : LE te we) (hy : LE ty wy) : LE (tDGet te ty) (wDGetL we wy) := fun _ _ _ _ _ _ _ h e hq o =>
  he h e hq fun x M1 v w1 H1 s1 h1 r1 q1 => hy h1 (e.grow s1.grow) q1 fun y M2 v2 w2 H2 s2 h2 r2 q2 => by
    obtain ⟨n, kvs, od, ey, k, d, rfl, hm, hv, hk, hd, q⟩ := q2
    obtain ⟨a, ha, rfl⟩ := r1.grow s2.grow
    obtain ⟨ks, ho, r⟩ := lkd_at h2 ha hm
    have ek := keyD_ok (view_ok h2 r2 hv) hk
    subst ek
    rcases valD_ok r k with ⟨z, _⟩ | ⟨d', v', z1, z2, z3⟩
    · rw [hd] at z; cases z
    · rw [hd] at z1; cases z1
      refine ⟨a, v', rfl, ?_, ((o.trans s1 h1).trans s2 h2).here h2 (RU.D z3) q⟩
      exact .inl ⟨ks, k, .inr ⟨od, ho⟩, rfl, z2.symm⟩
/-! ### dict(pairs) -/
def pairsD (ps : List (Key × PyData)) : List PyData := ps.map fun p => .tuple [kD p.1, p.2]
def rDictP (K : PySem.W.Frag) : List V → Hp → VK → Prop := fun xs H Q => ∃ (a : Addr) (ps : List Addr) (kvs : List (Key × V)), xs = [.ref a] ∧ SqL K H a (ps.map V.ref) ∧ Paired (fun p kv => SqT K H p [kV kv.1, kv.2]) ps kvs ∧ ∀ p, H p = none → Q (.ref p) (upd H p (.dK (mergeK [] kvs)))
def wDictP : List U → List Ob → (U → List Ob → Prop) → Prop := fun us M Q => ∃ u ps, us = [u] ∧ view M u = some (.list (pairsD ps)) ∧ Q (.p M.length) (M ++ [.dic (mergeD [] ps)])
theorem pairs_rep {K : PySem.W.Frag} {F H : Hp} (e : Same F H) : ∀ {ps : List (Key × PyData)} {vs : List V}, RpL F (pairsD ps) vs → ∃ (as : List Addr) (kvs : List (Key × V)), vs = as.map V.ref ∧ Paired (fun p kv => SqT K H p [kV kv.1, kv.2]) as kvs ∧ KRel F ps kvs
  | [], _, .nil => ⟨[], [], rfl, .nil, .nil⟩
  | (k, d) :: ps, _, .cons h t => by
    obtain ⟨as, kvs, rfl, h1, h2⟩ := pairs_rep (K := K) e t
    cases h with
    | tup ha r =>
      cases r with
      | cons r1 r2 =>
        cases r2 with
        | cons r2 r3 =>
          cases r3
          have ek : ∀ {v : V}, Rp F (kD k) v → v = kV k := fun {v} r => by cases k <;> cases r <;> rfl
          have := ek r1
          subst this
          exact ⟨_ :: as, (k, _) :: kvs, rfl, .cons (SqT.of (e _ _ ha)) h1, .cons ⟨rfl, r2⟩ h2⟩
theorem lc_dictP {K : PySem.W.Frag} : LC (rDictP K) wDictP := fun w M H x vx Qu Q h rx hq o => by
  obtain ⟨u, ps, rfl, hv, q⟩ := hq
  obtain ⟨v, rfl, r⟩ := rus1 rx
  obtain ⟨p, vs, rfl, hp, r1⟩ := view_ok h r hv
  obtain ⟨as, kvs, rfl, h1, h2⟩ := pairs_rep (K := K) h.sub r1
  refine ⟨p, as, kvs, rfl, SqL.of hp, h1, fun l hl => ?_⟩
  exact o _ _ _ _ _ (Step.cell h hl) (h.cell' hl (RO.Dic (mergeD_ok h2 .nil))) (RU.P (Wd.cell_at h)) q
theorem x_dictP {X : Cx} {K : PySem.W.Frag} (h : X.K = K) (hc : X.calm = true) : CallR X (.type "dict") (rDictP K) := h ▸ call_dictP hc
/-! ### {k: v for ..} -/
def fPut (D : Addr) (tt : TT) (tk tv : TE) : L2.St → Hp → (Hp → Prop) → Prop := fun σ2 H2 N => tt σ2 H2 fun b H3 => if b = true then tk σ2 H3 fun y H4 => tv σ2 H4 fun z H5 => ∃ kvs k, y = kV k ∧ H5 D = some (.dK kvs) ∧ kvs.length < sizeLine ∧ N (upd H5 D (.dK (putK kvs k z))) else N H3
structure PrvD (w : Wd) (H : Hp) (D : Addr) (acc : List U) : Prop where
  at_ : ∃ (ps : List (Key × PyData)) (ks : List (Key × V)), acc = itemsU ps ∧ H D = some (.dK ks) ∧ KRel w.F (mergeD [] ps) ks
  F : w.F D = none
  th : D ∉ w.th
theorem KRel.grow {F F' : Hp} (e : Same F F') {kvs : List (Key × PyData)} {ks : List (Key × V)} (r : KRel F kvs ks) : KRel F' kvs ks := L2.Paired.mapP r fun _ _ q => ⟨q.1, q.2.mono e⟩
theorem PrvD.step {w w' : Wd} {H H' : Hp} {D : Addr} {acc : List U} (p : PrvD w H D acc) (s : Step w H w' H') : PrvD w' H' D acc := by
  obtain ⟨ps, ks, h1, h2, h3⟩ := p.at_
  refine ⟨⟨ps, ks, h1, s.fr _ _ h2 p.th, KRel.grow s.F h3⟩, ?_, fun m => ?_⟩
  · cases e : w'.F D with
    | none => rfl
    | some o =>
      rcases s.own D o p.F e with q | q
      · rw [h2] at q; cases q
      · exact absurd q p.th
  · obtain ⟨t, e, ht⟩ := s.th
    rw [e] at m
    rcases List.mem_append.mp m with q | q
    · exact p.th q
    · have := ht D q
      rw [h2] at this; cases this
def kPut (wt : WT) (wk wv : WE) : WK := fun ρ M acc Q => wt ρ M fun b M2 => if b = true then wk ρ M2 fun x M3 => wv ρ M3 fun y M4 => ∃ k d, x = keyU k ∧ y = .d d ∧ acc.length < sizeLine ∧ Q (acc ++ [.d (.tuple [kD k, d])]) M4 else Q acc M2
def LKD (D : Addr) (f : L2.St → Hp → (Hp → Prop) → Prop) (k : WK) : Prop := ∀ ⦃w : Wd⦄ ⦃M : List Ob⦄ ⦃H : Hp⦄ ⦃σ : L2.St⦄ ⦃ρ : Rho⦄ ⦃acc : List U⦄ ⦃Qu : List U → List Ob → Prop⦄ ⦃N : Hp → Prop⦄, Hold w M H → Env w σ ρ → PrvD w H D acc → k ρ M acc Qu →
  (∀ (acc' : List U) (M' : List Ob) (w' : Wd) (H' : Hp), (∀ {w0 : Wd} {H0 : Hp}, H0 D = none → Step w0 H0 w H → Step w0 H0 w' H') → Grow w w' → Hold w' M' H' → PrvD w' H' D acc' → Qu acc' M' → N H') → f σ H N
theorem mergeD_snoc (ps : List (Key × PyData)) (k : Key) (d : PyData) : mergeD [] (ps ++ [(k, d)]) = putD (mergeD [] ps) k d := by unfold mergeD; rw [List.foldl_append]; rfl
theorem putD_len (kvs : List (Key × PyData)) (k : Key) (d : PyData) : (putD kvs k d).length ≤ kvs.length + 1 := by
  unfold putD
  split
  · rw [List.length_map]; omega
  · rw [List.length_append]; exact Nat.le_refl _
theorem mergeD_len (ps : List (Key × PyData)) : (mergeD [] ps).length ≤ ps.length := by
  have go : ∀ r : List (Key × PyData), (mergeD [] r.reverse).length ≤ r.length := fun r => by
    induction r with
    | nil => exact Nat.le_refl _
    | cons p r ih =>
      obtain ⟨k, d⟩ := p
      rw [List.reverse_cons, mergeD_snoc, List.length_cons]
      have := putD_len (mergeD [] r.reverse) k d
      omega
  have := go ps.reverse
  rwa [List.reverse_reverse, List.length_reverse] at this
theorem lkd_put {D : Addr} {tt : TT} {tk tv : TE} {wt : WT} {wk wv : WE} (ht : LT tt wt) (hk : LE tk wk) (hv : LE tv wv) : LKD D (fPut D tt tk tv) (kPut wt wk wv) := fun w M H σ ρ acc Qu N h e p hq o =>
  ht h e hq fun b M2 c w2 H2 s2 h2 r2 q2 => by
    have r : b = c := r2
    subst r
    cases b with
    | false => exact o _ _ _ _ (fun _ s => s.trans h s2) s2.grow h2 (p.step s2) q2
    | true =>
      refine hk h2 (e.grow s2.grow) q2 fun x M3 y w3 H3 s3 h3 r3 q3 => hv h3 ((e.grow s2.grow).grow s3.grow) q3 fun x4 M4 y4 w4 H4 s4 h4 r4 q4 => ?_
      have s24 := (s2.trans h2 s3).trans h3 s4
      have p4 := p.step s24
      obtain ⟨k, d, rfl, rfl, hl, q⟩ := q4
      obtain ⟨ps, ks, rfl, hd, rk⟩ := p4.at_
      have e1 := mergeD_len ps
      have e2 := Paired.length rk
      have hl' : ps.length < sizeLine := by simpa [itemsU] using hl
      refine ⟨ks, k, keyU_v r3, hd, by omega, ?_⟩
      refine o (itemsU ps ++ [.d (.tuple [kD k, d])]) M4 w4 _ (fun hD s => (s.trans h s24).prv hD) s24.grow (h4.prv p4.F p4.th) ⟨⟨ps ++ [(k, d)], _, by simp [itemsU], upd_same, ?_⟩, p4.F, p4.th⟩ q
      rw [mergeD_snoc]
      exact putD_ok rk (show Rp w4.F d y4 from r4) k
theorem loopD_ok {D : Addr} {J : It} {g : TG} {wg : WG} {f : L2.St → Hp → (Hp → Prop) → Prop} {k : WK} {vs : List Nat} {σ : L2.St} {ρ : Rho} {us acc : List U} {G : List Ob → Prop} {w1 : Wd} {M1 : List Ob} {H1 : Hp} {Qu : List U → List Ob → Prop} {Qd : Hp → Prop}
    (hg : LGv vs g wg) (hk : LKD D f k) (h1 : Hold w1 M1 H1) (e : Env w1 σ ρ) (p : PrvD w1 H1 D acc) (j : JOk w1 J us G) (q : wLcGo G wg k (wipeR ρ vs) us acc M1 Qu)
    (o : ∀ (acc' : List U) (M' : List Ob) (w' : Wd) (H' : Hp), (∀ {w0 : Wd} {H0 : Hp}, H0 D = none → Step w0 H0 w1 H1 → Step w0 H0 w' H') → Grow w1 w' → Hold w' M' H' → PrvD w' H' D acc' → Qu acc' M' → Qd H') :
    ∃ Wi : Nat → Nat → Hp → Prop, (∃ m, Wi 0 m H1) ∧ fLoop D J g σ vs f Qd Wi := by
  refine ⟨fun i m H' => m = us.length - i ∧ ∃ w' M' acc', (∀ {w0 : Wd} {H0 : Hp}, H0 D = none → Step w0 H0 w1 H1 → Step w0 H0 w' H') ∧ Grow w1 w' ∧ Hold w' M' H' ∧ PrvD w' H' D acc' ∧ wLcGo G wg k (wipeR ρ vs) (us.drop i) acc' M' Qu,
    ⟨us.length, by simp, w1, M1, acc, fun _ s => s, Grow.refl _, h1, p, q⟩, ?_⟩
  rintro i m H' ⟨hm, w', M', acc', s', g', h', p', q'⟩
  by_cases hi' : i < us.length
  · right
    have hG := wLcGo_G q'
    rw [List.drop_eq_getElem_cons hi'] at q'
    refine ⟨j.go i g' h' hG hi', fun H2 => ∃ w2 M2 acc2, (∀ {w0 : Wd} {H0 : Hp}, H0 D = none → Step w0 H0 w1 H1 → Step w0 H0 w2 H2) ∧ Grow w1 w2 ∧ Hold w2 M2 H2 ∧ PrvD w2 H2 D acc2 ∧ wLcGo G wg k (wipeR ρ vs) (us.drop (i + 1)) acc2 M2 Qu, ?_, fun v H2 y => ?_⟩
    · rintro H2 ⟨w2, M2, acc2, z⟩
      exact ⟨us.length - (i + 1), by omega, rfl, w2, M2, acc2, z⟩
    · obtain ⟨w2, s2, h2, r2⟩ := j.yld i g' h' hG (List.getElem?_eq_getElem hi') y
      have g2 := g'.trans s2.grow
      refine hg h2 ((e.wipe vs).grow g2) r2 q'.2 fun ρ3 M3 σ3 w3 H3 s3 h3 e3 z3 q3 => ?_
      have s23 := s2.trans h2 s3
      refine ⟨z3.trans ?_, hk h3 e3 (p'.step s23) q3 fun acc4 M4 w4 H4 s4 g4 h4 p4 q4 => ⟨w4, M4, acc4, fun hD s => s4 hD ((s' hD s).trans h' s23), (g2.trans s3.grow).trans g4, h4, p4, q4⟩⟩
      have ww : ∀ (vs us : List Nat) (τ : L2.St), (∀ i ∈ us, i ∈ vs) → wipe (wipe τ us) vs = wipe τ vs := by
        intro vs us
        induction us with
        | nil => intro τ _; rfl
        | cons u us ih =>
          intro τ hu
          show wipe ((wipe τ us).set u none) vs = wipe τ vs
          rw [wipe_set (hu u List.mem_cons_self), ih τ fun i hi => hu i (List.mem_cons_of_mem _ hi)]
      exact ww vs vs σ fun _ h => h
  · left
    rw [List.drop_of_length_le (by omega)] at q'
    exact ⟨j.stop i g' h' q'.1 (by omega), o _ _ _ _ s' g' h' p' q'.2⟩
def wDc (ww : WI) (wg : WG) (k : WK) (vs : List Nat) : WE := fun ρ M Q => ww ρ M fun us G M1 => wLcGo G wg k (wipeR ρ vs) us [] M1 fun acc M2 => ∃ ps, acc = itemsU ps ∧ Q (.p M2.length) (M2 ++ [.dic (mergeD [] ps)])
theorem itemsU_inj : ∀ {a b : List (Key × PyData)}, itemsU a = itemsU b → a = b
  | [], [], _ => rfl
  | [], _ :: _, h => by cases h
  | _ :: _, [], h => by cases h
  | (k, d) :: a, (k', d') :: b, h => by
    have h' : U.d (.tuple [kD k, d]) :: itemsU a = U.d (.tuple [kD k', d']) :: itemsU b := h
    injection h' with h1 h2
    rw [itemsU_inj h2]
    injection h1 with h1
    injection h1 with h1
    injection h1 with h3 h4
    injection h4 with h4
    have ek : k = k' := by cases k <;> cases k' <;> cases h3 <;> rfl
    rw [ek, h4]
theorem le_dc {wi : TI} {ww : WI} {g : TG} {wg : WG} {tt : TT} {wt : WT} {tk tv : TE} {wk wv : WE} {vs : List Nat} (hi : LI wi ww) (hg : LGv vs g wg) (ht : LT tt wt) (hk : LE tk wk) (hv : LE tv wv) : LE (tDc wi g tt tk tv vs) (wDc ww wg (kPut wt wk wv) vs) := fun w M H σ ρ Qu Q h e hq o =>
  hi h e hq fun us G M1 J w1 H1 s1 h1 j q D hD => by
    have hD0 : H D = none := s1.none_back h1 hD
    have F0 := h1.newF hD
    have t0 := h1.off hD
    have p0 : PrvD w1 (upd H1 D (.dK [])) D [] := ⟨⟨[], [], rfl, upd_same, .nil⟩, F0, t0⟩
    refine loopD_ok hg (lkd_put ht hk hv) (h1.prv F0 t0) (e.grow s1.grow) p0 j q fun acc' M' w' H' s' g' h' p' q' => ?_
    obtain ⟨ps, rfl, qq⟩ := q'
    obtain ⟨ps', ks, e1, e2, e3⟩ := p'.at_
    have := itemsU_inj e1
    subst this
    exact o _ _ _ _ _ ((s' hD0 (s1.prv hD0)).prvCell hD0) (h'.prvCell p'.F p'.th e2 (RO.Dic e3)) (RU.P (Wd.cell_at h')) qq
end DL

namespace DL
open PySem L2 PySem.Spec PyProof.Rows
/-! ### an empty dict -/
def wDNewK : WE := fun _ M Q => Q (.p M.length) (M ++ [.dic []])
theorem le_dnewK : LE tDNewK wDNewK := fun w M H σ ρ Qu Q h e hq o p hp =>
  o _ _ _ _ _ (Step.cell h hp) (h.cell' hp (RO.Dic .nil)) (RU.P (Wd.cell_at h)) hq
/-! ### == of instances with an own __eq__, both answers -/
def rOwn (C : Addr) (sp : Sp) (E : XK) : R2 := fun x y H Q => ∃ a b dx dy fs gs, x = .ref a ∧ y = .ref b ∧ H a = some (.ins C dx fs) ∧ H b = some (.ins C dy gs) ∧ sp [.ref a, .ref b] H (fun v H' => ∃ t, v = .bl t ∧ Q (.bl t) H') E
theorem op_eqOwn {X : Cx} {n : Nat} {CX : CXT} {C f : Addr} {fd : FuncData} {ps : List Str} {sp : Sp} {E : XK} (F : FnOk X.prog X.w X.K X.mg X.base CX n f fd ps sp) (hr : Room n X.A)
    (hs : PySem.W.findIn X.K (.ref C) "__eq__" = some (some (.ref f))) (hf : PySem.W.isFn X.K (.ref f) = true) (hb : Binds X.K fd ps []) (hx : Passes CX X E) : OpR X (compareOp .Eq) (rOwn C sp E) := by
  intro pins s σ H x y v u Q I rx ry hq
  obtain ⟨a, b, dx, dy, fs, gs, rfl, rfl, ha, hb', hsp⟩ := hq
  cases rx
  cases ry
  show wpAny (model X.prog X.w) X.A (richCompare .Eq _ _) (EP X pins σ Q) X.xe s
  obtain ⟨mA, J, _⟩ := ins_get I.hok ha
  obtain ⟨mB, J', _⟩ := ins_get I.hok hb'
  obtain ⟨od, J, _⟩ := J.look
  obtain ⟨od', J', _⟩ := J'.look
  obtain ⟨m, hF⟩ := I.fr
  refine PySem.W.cmp_K (op := .Eq) (tb := .ref C) hr.units0 hF I.ok.mod.kin J J'.type (by simp [PySem.W.notFirst]) hs hf ?_
  have hl := F.len _ _ _ _ hsp
  have r2 : Vals [V.ref a, V.ref b] [Value.ref a, Value.ref b] := .cons rfl (.cons rfl .nil)
  refine wpAny_call (codeAny_mono (F.run X.A X.stack s H ⟨[.ref a, .ref b], []⟩ [.ref a, .ref b] [.ref a, .ref b] _ E hr I.env0 (by
    have := hb s [.ref a, .ref b] I.kIn (by simpa using hl)
    simpa using this) r2 hsp) fun r s' hq => ?_)
  cases r with
  | error e => exact hx pins σ H s e s' I hq
  | ok fl =>
    cases fl with
    | ret w =>
      obtain ⟨z, H', I', rz, t, ez, q⟩ := I.after hq
      subst ez
      cases rz
      exact ⟨.bl t, H', I', rfl, q⟩
    | next => exact False.elim hq
    | brk => exact False.elim hq
    | cont => exact False.elim hq
/-- x == y as a call of __eq__ -/
def wEqOwn (C : Addr) (is : List Nat) (d : DSp) : R2' := fun x y M Q => ∃ n fs m gs, x = .p n ∧ y = .p m ∧ M[n]? = some (.ins C fs) ∧ M[m]? = some (.ins C gs) ∧ cC is d [] [x, y] M fun u M' => ∃ t, u = .d (.bool t) ∧ Q (.d (.bool t)) M'
theorem lr_eqOwn {C : Addr} {is : List Nat} {d : DSp} {E : XK} : LR (rOwn C (liftSp d) E) (wEqOwn C is d) := fun w M H x y vx vy Qu Q h rx ry hq o => by
  obtain ⟨n, fs, m, gs, rfl, rfl, hm, hm2, q⟩ := hq
  obtain ⟨a, ob, rfl, ha, ho, dx, gs1, rfl, r⟩ := cell_at h rx hm (fun q => nomatch q)
  obtain ⟨b, ob2, rfl, hb, ho2, dy, gs2, rfl, r2⟩ := cell_at h ry hm2 (fun q => nomatch q)
  refine ⟨a, b, dx, dy, gs1, gs2, rfl, rfl, ho, ho2, ?_⟩
  have := cC_ok (dvs := []) (dv := []) (E := E) (us := [.p n, .p m]) (vs := [.ref a, .ref b]) (fun _ => .nil) h (.cons rx (.cons ry .nil)) q (Q := fun v H' => ∃ t, v = .bl t ∧ Q (.bl t) H') fun u M' v w' H' s' h' r' q' => by
    obtain ⟨t, rfl, q'⟩ := q'
    have e : v = .bl t := by cases (show Rp w'.F (.bool t) v from r'); rfl
    subst e
    exact ⟨t, rfl, o _ _ _ _ _ s' h' r' q'⟩
  exact this
end DL

namespace DL
open PySem L2 PySem.Spec PyProof.Rows
/-! ### != of instances with an own __eq__: object.__ne__ -/
section
open PySem.W PySem.Calls
variable {prog : Program} {w : World} {A : Around} {E : Value → Shared → Prop} {s : Shared} {K : PySem.W.Frag} {x C L f : Addr} {h₀ : Heap} {m : Str → Option Value} {ox : Obj} {od : Option Obj}
theorem ne_slot : Slot "object" "__ne__" "object.__ne__" :=
  Slot.of (T := "object") (name := "__ne__") (owner := "object") (n := "__ne__") (by rw [typeLookup_type, builtinLookup_eq_fast]; kernel_rfl) (by decide +kernel) (by decide +kernel) (by decide +kernel)
    (.inl (by decide +kernel)) (by rw [isSubtype_type]; kernel_rfl)
theorem neBound_K {M : Model} {args : List Value} {Q : Option Value → Shared → Prop} (X : K.In s.heap) (I : InstAt s.heap x ox C od) (hs : findIn K (.ref C) "__ne__" = some (some (.builtin "object.__ne__")))
    (h : wpAny M A (call (.builtin "object.__ne__") (.ref x :: args)) (fun v => Q (some v)) E s) : wpAny M A (callSpecialIfBound? (.ref x) "__ne__" args) Q E s := by
  simp only [callSpecialIfBound?, bindSpecialIfBound?]
  refine wpAny_holding (wpAny_bind (wpAny_bind (wpAny_bind (I.type.here ((looks_findIn X hs).here ?_)))))
  simp only [ne_slot.bind]
  refine wpAny_bind (wpAny_askSetting (wpAny_ite ?_))
  have fin : wpAny M A (call (.builtin "object.__ne__") ([.ref x] ++ args) >>= fun v => pure (some v)) Q E s := wpAny_bind (wpAny_mono h (fun v s' h' => wpAny_pure h') fun _ _ h' => h')
  split
  · exact wpAny_bind (wpAny_pure (wpAny_pure fin))
  · exact wpAny_tryCatch (wpAny_bind (wpAny_pure (wpAny_pure fin)))
theorem objNe_own {b : Value} {Q : Fin → Shared → Prop} (hu : A.units < cLine) (X : K.In s.heap) (I : InstAt s.heap x ox C od) (hs : findIn K (.ref C) "__eq__" = some (some (.ref f))) (hf : isFn K (.ref f) = true)
    (h : wpAny (model prog w) A (call (.ref f) [.ref x, b]) (fun v s' => ∃ t, v = .bool t ∧ Q (.done (.ret (.bool (!t)))) s') E s) : wpAny (model prog w) A (Builtin.«object.__ne__» ⟨[.ref x, b], []⟩) Q E s := by
  unfold Builtin.«object.__ne__»
  refine wpAny_bind (wpAny_pure ?_)
  refine wpAny_bind (wpAny_cRoomFor hu ?_)
  refine wpAny_bind (ifBound_K X I hs hf (wpAny_mono h (fun v s' hv => ?_) fun _ _ e => e))
  obtain ⟨t, rfl, q⟩ := hv
  cases t <;> (repeat (first | exact q | wp_step))
theorem ne_K {b tb : Value} {Q : Value → Shared → Prop} (hu : A.units + 1 < cLine) (FF : Fr h₀ L s.heap m) (X₀ : K.In h₀) (I : InstAt s.heap x ox C od) (hb : Looks (model prog w) s.heap (typeOf b) tb) (hn : notFirst K C tb = true)
    (hne : findIn K (.ref C) "__ne__" = some (some (.builtin "object.__ne__"))) (hm : mroIn K C (.type "object") = some true) (hs : findIn K (.ref C) "__eq__" = some (some (.ref f))) (hf : isFn K (.ref f) = true)
    (h : wpAny (model prog w) A.in1 (call (.ref f) [.ref x, b]) (fun v s' => ∃ t, v = .bool t ∧ Q (.bool (!t)) s') E s) : wpAny (model prog w) A (richCompare .NotEq (.ref x) b) Q E s := by
  have X := X₀.keeps FF.keep
  have hu0 : A.units < cLine := Nat.lt_of_succ_lt hu
  have hi : Looks (model prog w) s.heap (isInstance (.ref x) (.type "object")) true := I.type.andThen (looks_subIn X (t := .ref C) hm)
  have one : wpAny (model prog w) A (tryCompare (.ref x) "__ne__" b) (fun r s' => ∃ v, r = some v ∧ Q v s') E s := by
    unfold tryCompare
    refine wpAny_bind (neBound_K X I hne (wpAny_call (codeAny_call_builtin ne_slot.plain PySem.F.cmpEntry_ne (check_slot PySem.F.cmpKind_ne PySem.F.cmpSplit_ne hi (PySem.F.cmpArgs_ne _ _) (objNe_own (A := A.in1) hu X I hs hf (wpAny_mono h (fun v s' hv => ?_) fun _ _ e => e))))))
    obtain ⟨t, rfl, q⟩ := hv
    exact ⟨t, rfl, wpAny_pure ⟨_, rfl, q⟩⟩
  unfold richCompare
  simp only [oneThing_ref]
  refine wpAny_holding (wpAny_bind (wpAny_cRoomFor hu0 ?_))
  refine wpAny_bind (I.type.here (wpAny_bind (hb.here ?_)))
  split
  · rename_i q
    have e : subIn K tb (.ref C) = some false := by
      rcases Bool.or_eq_true_iff.mp hn with e | e
      · rw [beq_iff_eq.mp e] at q; simp at q
      · exact beq_iff_eq.mp e
    refine wpAny_bind ((looks_subIn X e).here ?_)
    simp only [Bool.false_eq_true, if_false]
    refine wpAny_bind (wpAny_mono one (fun r s' z => ?_) fun _ _ e => e)
    obtain ⟨v, rfl, hq⟩ := z
    exact wpAny_pure hq
  · refine wpAny_bind (wpAny_pure ?_)
    simp only [Bool.false_eq_true, if_false]
    refine wpAny_bind (wpAny_mono one (fun r s' z => ?_) fun _ _ e => e)
    obtain ⟨v, rfl, hq⟩ := z
    exact wpAny_pure hq
end
def rNeOwn (C : Addr) (sp : Sp) (E : XK) : R2 := fun x y H Q => ∃ a b dx dy fs gs, x = .ref a ∧ y = .ref b ∧ H a = some (.ins C dx fs) ∧ H b = some (.ins C dy gs) ∧ sp [.ref a, .ref b] H (fun v H' => ∃ t, v = .bl t ∧ Q (.bl (!t)) H') E
theorem op_neOwn {X : Cx} {n : Nat} {CX : CXT} {C f : Addr} {fd : FuncData} {ps : List Str} {sp : Sp} {E : XK} (F : FnOk X.prog X.w X.K X.mg X.base CX n f fd ps sp) (hr : Room (n + 1) X.A)
    (hne : PySem.W.findIn X.K (.ref C) "__ne__" = some (some (.builtin "object.__ne__"))) (hm : PySem.W.mroIn X.K C (.type "object") = some true)
    (hs : PySem.W.findIn X.K (.ref C) "__eq__" = some (some (.ref f))) (hf : PySem.W.isFn X.K (.ref f) = true) (hb : Binds X.K fd ps []) (hx : Passes CX X E) : OpR X (compareOp .NotEq) (rNeOwn C sp E) := by
  intro pins s σ H x y v u Q I rx ry hq
  obtain ⟨a, b, dx, dy, fs, gs, rfl, rfl, ha, hb', hsp⟩ := hq
  cases rx
  cases ry
  show wpAny (model X.prog X.w) X.A (richCompare .NotEq _ _) (EP X pins σ Q) X.xe s
  obtain ⟨mA, J, _⟩ := ins_get I.hok ha
  obtain ⟨mB, J', _⟩ := ins_get I.hok hb'
  obtain ⟨od, J, _⟩ := J.look
  obtain ⟨od', J', _⟩ := J'.look
  obtain ⟨m, hF⟩ := I.fr
  refine ne_K (tb := .ref C) (by have := hr.in1.units0; exact this) hF I.ok.mod.kin J J'.type (by simp [PySem.W.notFirst]) hne hm hs hf ?_
  have hl := F.len _ _ _ _ hsp
  have r2 : Vals [V.ref a, V.ref b] [Value.ref a, Value.ref b] := .cons rfl (.cons rfl .nil)
  have e0 : Env0 X.prog X.w X.K X.mg X.base X.A.in1 X.stack s H := by
    have e := I.env0
    exact ⟨e.frames, e.mod, e.bs, e.bsz, e.funs, e.frf, e.hok, e.bare⟩
  refine wpAny_call (codeAny_mono (F.run X.A.in1 X.stack s H ⟨[.ref a, .ref b], []⟩ [.ref a, .ref b] [.ref a, .ref b] _ E hr.in1 e0 (by
    have := hb s [.ref a, .ref b] I.kIn (by simpa using hl)
    simpa using this) r2 hsp) fun r s' hq => ?_)
  cases r with
  | error e => exact hx pins σ H s e s' I hq
  | ok fl =>
    cases fl with
    | ret w =>
      obtain ⟨z, H', I', rz, t, ez, q⟩ := I.after hq
      subst ez
      cases rz
      exact ⟨t, rfl, .bl (!t), H', I', rfl, q⟩
    | next => exact False.elim hq
    | brk => exact False.elim hq
    | cont => exact False.elim hq
def wNeOwn (C : Addr) (is : List Nat) (d : DSp) : R2' := fun x y M Q => ∃ n fs m gs, x = .p n ∧ y = .p m ∧ M[n]? = some (.ins C fs) ∧ M[m]? = some (.ins C gs) ∧ cC is d [] [x, y] M fun u M' => ∃ t, u = .d (.bool t) ∧ Q (.d (.bool (!t))) M'
theorem lr_neOwn {C : Addr} {is : List Nat} {d : DSp} {E : XK} : LR (rNeOwn C (liftSp d) E) (wNeOwn C is d) := fun w M H x y vx vy Qu Q h rx ry hq o => by
  obtain ⟨n, fs, m, gs, rfl, rfl, hm, hm2, q⟩ := hq
  obtain ⟨a, ob, rfl, ha, ho, dx, gs1, rfl, r⟩ := cell_at h rx hm (fun q => nomatch q)
  obtain ⟨b, ob2, rfl, hb, ho2, dy, gs2, rfl, r2⟩ := cell_at h ry hm2 (fun q => nomatch q)
  refine ⟨a, b, dx, dy, gs1, gs2, rfl, rfl, ho, ho2, ?_⟩
  have := cC_ok (dvs := []) (dv := []) (E := E) (us := [.p n, .p m]) (vs := [.ref a, .ref b]) (fun _ => .nil) h (.cons rx (.cons ry .nil)) q (Q := fun v H' => ∃ t, v = .bl t ∧ Q (.bl (!t)) H') fun u M' v w' H' s' h' r' q' => by
    obtain ⟨t, rfl, q'⟩ := q'
    have e : v = .bl t := by cases (show Rp w'.F (.bool t) v from r'); rfl
    subst e
    exact ⟨t, rfl, o _ _ _ _ _ s' h' (RU.D (.bl _)) q'⟩
  exact this
end DL

namespace DL
open PySem L2 PySem.Spec PyProof.Rows
/-! ### == of two dicts of flat values, the equal case -/
def wEqDic : R2' := fun x y M Q => ∃ n kvs m kvs2, x = .p n ∧ y = .p m ∧ M[n]? = some (.dic kvs) ∧ M[m]? = some (.dic kvs2) ∧ kvs.length = kvs2.length ∧ flatKv kvs = true ∧ (∀ p ∈ kvs, valD kvs2 p.1 = some p.2) ∧ Q (.d (.bool true)) M
theorem flatB_v {d : PyData} (h : flatD d = true) : flatB (vOf d) = true := by
  cases d <;> first | rfl | cases h
theorem lr_eqDic : LR rEqDA wEqDic := fun w M H x y vx vy Qu Q h rx ry hq o => by
  obtain ⟨n, kvs, m, kvs2, rfl, rfl, hm, hm2, hl, hf, hp, q⟩ := hq
  obtain ⟨a, ob, rfl, ha, ho, ks, rfl, r⟩ := cell_at h rx hm (fun q => nomatch q)
  obtain ⟨b, ob2, rfl, hb, ho2, ls, rfl, r2⟩ := cell_at h ry hm2 (fun q => nomatch q)
  have e1 := flat_ks r hf
  refine ⟨a, b, ks, ls, rfl, rfl, ho, ho2, by rw [← Paired.length r, ← Paired.length r2]; exact hl, ?_, o.here h (RU.D (.bl _)) q⟩
  intro p hp2
  rw [e1] at hp2
  obtain ⟨q2, hq2, rfl⟩ := List.mem_map.mp hp2
  have hfl : flatD q2.2 = true := by
    unfold flatKv at hf
    rw [List.all_eq_true] at hf
    exact hf q2 hq2
  refine ⟨?_, flatB_v hfl⟩
  rcases valD_ok r2 q2.1 with ⟨z1, _⟩ | ⟨d, v, z1, z2, z3⟩
  · rw [hp q2 hq2] at z1; cases z1
  · rw [hp q2 hq2] at z1
    cases z1
    rw [z2, flat_v z3 hfl]
/-! ### isinstance of an own class -/
def wIsC (C : Addr) (we : WE) : WE := fun ρ M Q => we ρ M fun x M1 => ∃ n fs, x = .p n ∧ M1[n]? = some (.ins C fs) ∧ Q (.d (.bool true)) M1
theorem le_isC {C : Addr} {te : TE} {we : WE} (he : LE te we) : LE (tCB (fun xs H Q => ∃ a dx fs, xs = [.ref a, .ref C] ∧ H a = some (.ins C dx fs) ∧ Q (.bl true) H) (tCons te (tCons (tC (.ref C)) tNil))) (wIsC C we) := fun _ _ _ _ _ _ _ h e hq o =>
  he h e hq fun x M1 v w1 H1 s1 h1 r1 q1 => by
    obtain ⟨n, fs, rfl, hm, q⟩ := q1
    obtain ⟨a, ob, rfl, ha, ho, dx, gs, rfl, r⟩ := cell_at h1 r1 hm (fun q => nomatch q)
    exact ⟨a, dx, gs, rfl, ho, (o.trans s1 h1).here h1 (RU.D (.bl _)) q⟩
end DL

namespace DL
open PySem L2 PySem.Spec PyProof.Rows
/-! ### a walk over a list, data or a cell -/
/-- the items of a list that is data or a cell; what the cell must be meanwhile -/
def lstU (M : List Ob) (u : U) (ds : List PyData) (G : List Ob → Prop) : Prop := (u = .d (.list ds) ∧ G = fun _ => True) ∨ ∃ n, u = .p n ∧ M[n]? = some (.lst ds) ∧ G = fun M' => M'[n]? = some (.lst ds)
def wIListX (we : WE) : WI := fun ρ M Q => we ρ M fun x M1 => ∃ ds G, lstU M1 x ds G ∧ Q (ds.map U.d) G M1
theorem li_listX {K : PySem.W.Frag} {te : TE} {we : WE} (he : LE te we) : LI (iList K te) (wIListX we) := fun _ _ _ _ _ _ _ h e hq k =>
  he h e hq fun _ _ _ _ _ s1 h1 r1 q1 => by
    obtain ⟨ds, G, hl, q⟩ := q1
    rcases hl with ⟨rfl, rfl⟩ | ⟨n, rfl, hm, rfl⟩
    · cases (show Rp _ _ _ from r1) with
      | lst ha r => exact ⟨_, rfl, ⟨_, SqL.of (h1.sub _ _ ha)⟩, k _ _ _ _ _ _ s1 h1 (j_list ha r) q⟩
    · obtain ⟨a, ob, rfl, ha, ho, vs, rfl, r⟩ := cell_at h1 r1 hm (fun q => nomatch q)
      exact ⟨_, rfl, ⟨_, SqL.of ho⟩, k _ _ _ _ _ _ s1 h1 (j_listC ha) q⟩
/-! ### list.clear -/
def wClear : WM := fun x ys M Q => ∃ n ds, x = .p n ∧ ys = [] ∧ M[n]? = some (.lst ds) ∧ Q (.d .none) (M.set n (.lst []))
theorem lm_clear : LM rClear wClear := fun w M H x vx ys vs Qu Q h rx rs hq o => by
  obtain ⟨n, ds, rfl, rfl, hm, q⟩ := hq
  cases rs
  obtain ⟨a, ob, rfl, ha, ho, ws, rfl, rr⟩ := cell_at h rx hm (fun q => nomatch q)
  exact ⟨a, ws, rfl, rfl, ho, set_out h ha hm (fun q => nomatch q) (RO.L .nil) (RU.D .non) q o⟩
/-! ### sorted(d) of a dict of texts -/
def wSortedD : List U → List Ob → (U → List Ob → Prop) → Prop := fun us M Q => ∃ n kvs ks, us = [.p n] ∧ M[n]? = some (.dic kvs) ∧ kvs.map (·.1) = ks.map Sum.inr ∧ ks.length < 64 ∧ ∀ ys : List Str, ys.Perm ks → Q (.d (.list (ys.map PyData.str))) M
theorem krel_keys {F : Hp} {kvs : List (Key × PyData)} {ks : List (Key × V)} (r : KRel F kvs ks) : ks.map (·.1) = kvs.map (·.1) := by
  induction r with
  | nil => rfl
  | cons h t ih => rw [List.map_cons, List.map_cons, ih, h.1]
abbrev rSortedD : List V → Hp → VK → Prop := fun xs H Q => ∃ (a : Addr) (kvs : List (Key × V)) (ks : List Str), xs = [.ref a] ∧ Rd H a (.dK kvs) ∧ kvs.map (·.1) = ks.map Sum.inr ∧ ks.length < 64 ∧
    ∀ ys p, ys.Perm ks → sortedS ys = true → H p = none → Q (.ref p) (upd H p (.lst (ys.map V.str)))
theorem lc_sortedD : LC rSortedD wSortedD := fun w M H x vx Qu Q h rx hq o => by
  obtain ⟨n, kvs, ks, rfl, hm, hk, hl, q⟩ := hq
  obtain ⟨v, rfl, r⟩ := rus1 rx
  obtain ⟨a, ob, rfl, ha, ho, vs, rfl, rr⟩ := cell_at h r hm (fun q => nomatch q)
  refine ⟨a, vs, ks, rfl, .inl ho, (krel_keys rr).trans hk, hl, fun ys p hp _ hn => ?_⟩
  exact o _ _ _ _ _ (Step.put h hn) (h.put hn) (RU.D (.lst Wd.putF (RpL.strs ys))) (q ys hp)
/-! ### a call by which a list's cell is read as data, and nothing of it is held behind -/
def flatU : U → Prop
  | .d d => flatD d = true
  | .p _ => True
  | _ => False
def flatOb : Ob → Prop
  | .lst ds => ∀ d ∈ ds, flatD d = true
  | .dic kvs => flatKv kvs = true
  | .ins _ fs => ∀ p ∈ fs, ∃ n, p.2 = .p n
  | .tpp us => ∀ u ∈ us, ∃ n, u = .p n
  | .lsp us => ∀ u ∈ us, ∃ n, u = .p n
  | .dead => True
  | _ => False
theorem flat_rp {F F' : Hp} {d : PyData} {v : V} (f : flatD d = true) (r : Rp F d v) : Rp F' d v := by
  cases r <;> first | (cases f; done) | constructor
theorem flat_rpl {F F' : Hp} {ds : List PyData} {vs : List V} (f : ∀ d ∈ ds, flatD d = true) (r : RpL F ds vs) : RpL F' ds vs := by
  induction ds generalizing vs with
  | nil => cases r; exact .nil
  | cons d ds ih =>
    cases r with
    | cons r t => exact .cons (flat_rp (f d List.mem_cons_self) r) (ih (fun x hx => f x (List.mem_cons_of_mem _ hx)) t)
theorem flat_ru {w w' : Wd} (e : w'.th = w.th) {u : U} {v : V} (f : flatU u) (r : RU w u v) : RU w' u v := by
  cases u with
  | d d => exact flat_rp f r
  | p n => exact (e ▸ r : ∃ a, w'.th[n]? = some a ∧ v = .ref a)
  | v x => exact r
  | s K ns => exact f.elim
theorem paired_mem {α β : Type} {R S : α → β → Prop} : ∀ {xs : List α} {ys : List β}, Paired R xs ys → (∀ x ∈ xs, ∀ y, R x y → S x y) → Paired S xs ys
  | _, _, .nil, _ => .nil
  | _, _, .cons h t, f => .cons (f _ List.mem_cons_self _ h) (paired_mem t fun x hx => f x (List.mem_cons_of_mem _ hx))
theorem flat_ro {w w' : Wd} (e : w'.th = w.th) {m : Ob} {o : HO} (f : flatOb m) (r : RO w m o) : RO w' m o := by
  cases m with
  | lst ds => obtain ⟨vs, rfl, r⟩ := r; exact ⟨vs, rfl, flat_rpl f r⟩
  | lsp us => obtain ⟨vs, rfl, r⟩ := r; exact ⟨vs, rfl, paired_mem r fun u hu v q => by obtain ⟨n, rfl⟩ := f u hu; exact flat_ru e trivial q⟩
  | tpp us => obtain ⟨vs, rfl, r⟩ := r; exact ⟨vs, rfl, paired_mem r fun u hu v q => by obtain ⟨n, rfl⟩ := f u hu; exact flat_ru e trivial q⟩
  | dic kvs =>
    obtain ⟨ks, rfl, r⟩ := r
    refine ⟨ks, rfl, paired_mem r fun p hp q z => ⟨z.1, flat_rp ?_ z.2⟩⟩
    have f' : flatKv kvs = true := f
    unfold flatKv at f'
    rw [List.all_eq_true] at f'
    exact f' p hp
  | ins C fs =>
    obtain ⟨dx, gs, rfl, r⟩ := r
    refine ⟨dx, gs, rfl, paired_mem r fun p hp q z => ⟨z.1, ?_⟩⟩
    obtain ⟨n, en⟩ := f p hp
    have z2 := z.2
    rw [en] at z2 ⊢
    exact flat_ru e trivial z2
  | dip kvs => exact f.elim
  | dit kvs => exact f.elim
  | lkd kvs od => exact f.elim
  | dead => trivial
theorem unfreeze {w w2 : Wd} {Mc : List Ob} {H H2 : Hp} {a : Addr} {o : HO} {th : List Addr} (hF : w.F a = none) (s : Step ⟨(w.put a o).F, th⟩ H w2 H2) (h2 : Hold w2 Mc H2) (f : ∀ o ∈ Mc, flatOb o) :
    Step ⟨w.F, th⟩ H ⟨fun b => if b = a then none else w2.F b, w2.th⟩ H2 ∧ Hold ⟨fun b => if b = a then none else w2.F b, w2.th⟩ Mc H2 := by
  refine ⟨⟨fun b u e => ?_, s.th, s.fr, fun b u e1 e2 => ?_⟩, ⟨h2.len, h2.nd, fun b u e => ?_, fun n b m e1 e2 => ?_⟩⟩
  · have e' : w.F b = some u := e
    have hb : b ≠ a := fun q => by subst q; rw [hF] at e'; cases e'
    show (if b = a then none else w2.F b) = some u
    rw [if_neg hb]
    exact s.F b u (by show (w.put a o).F b = some u; rw [Wd.putF_ne hb]; exact e')
  · have e2' : (if b = a then none else w2.F b) = some u := e2
    by_cases hb : b = a
    · rw [if_pos hb] at e2'; cases e2'
    · rw [if_neg hb] at e2'
      exact s.own b u (by show (w.put a o).F b = none; rw [Wd.putF_ne hb]; exact e1) e2'
  · have e' : (if b = a then none else w2.F b) = some u := e
    by_cases hb : b = a
    · rw [if_pos hb] at e'; cases e'
    · rw [if_neg hb] at e'; exact h2.sub b u e'
  · obtain ⟨ob, e3, e4⟩ := h2.cell n b m e1 e2
    refine ⟨ob, e3, e4.imp id fun ⟨q1, q2⟩ => ⟨?_, flat_ro (w := w2) (w' := ⟨fun b => if b = a then none else w2.F b, w2.th⟩) rfl (f m (List.mem_of_getElem? e2)) q2⟩⟩
    show (if b = a then none else w2.F b) = none
    by_cases hb : b = a
    · rw [if_pos hb]
    · rw [if_neg hb]; exact q1
def wCallB (is : List Nat) (k : Nat) (d : DSp) (dv : List PyData) (wr : WA) : WE := fun ρ M Q => wr ρ M fun us M1 => ∃ n ds, us[k]? = some (.p n) ∧ M1[n]? = some (.lst ds) ∧ outB n is = true ∧ nodB is = true ∧ allB is M1.length = true ∧
  ((us.set k (.d (.list ds))).map (rnU (inN is))).map (rnU (outN is M1.length)) = us.set k (.d (.list ds)) ∧
  (is.map fun i => rnO (inN is) (M1.getD i .dead)).map (rnO (outN is M1.length)) = (is.map fun i => M1.getD i .dead) ∧
  d ((us.set k (.d (.list ds))).map (rnU (inN is)) ++ dv.map U.d) (is.map fun i => rnO (inN is) (M1.getD i .dead)) fun u Mc => flatU u ∧ (∀ o ∈ Mc, flatOb o) ∧ Q (rnU (outN is M1.length) u) (wback M1 is (Mc.map (rnO (outN is M1.length))))
theorem rus_get {w : Wd} : ∀ {us : List U} {vs : List V}, RUs w us vs → ∀ {k : Nat} {u : U}, us[k]? = some u → ∃ v, vs[k]? = some v ∧ RU w u v
  | _, _, .nil, k, u, h => by simp at h
  | _, _, .cons h t, 0, u, e => by simp at e; subst e; exact ⟨_, rfl, h⟩
  | _, _, .cons h t, k + 1, u, e => by simpa using rus_get t (by simpa using e)
theorem rus_set {w : Wd} {x : U} {v : V} (r : RU w x v) : ∀ {us : List U} {vs : List V}, RUs w us vs → ∀ {k : Nat}, vs[k]? = some v → RUs w (us.set k x) vs
  | _, _, .nil, k, e => .nil
  | _, _, .cons h t, 0, e => by simp at e; subst e; exact .cons r t
  | _, _, .cons h t, k + 1, e => .cons h (rus_set r t (by simpa using e))
theorem le_callB {is : List Nat} {k : Nat} {d : DSp} {dvs : List V} {dv : List PyData} {E : XK} {tr : TA} {wr : WA} (hd : ∀ w : Wd, RUs w (dv.map U.d) dvs) (hr : LA tr wr) : LE (tCall (liftSp d) dvs E tr) (wCallB is k d dv wr) := fun _ _ _ _ _ _ _ h e hq o =>
  hr h e hq fun us M1 vs w1 H1 s1 h1 r1 q1 => by
    obtain ⟨n, ds, hu0, hm, ho', nd', hi', hu, hc, q⟩ := q1
    have nd := nodB_ok nd'
    have hi := allB_ok hi'
    have hni := outB_ok ho'
    obtain ⟨v, hv, rv⟩ := rus_get r1 hu0
    obtain ⟨a, ob, rfl, ha, ho, ws, rfl, rr⟩ := cell_at h1 rv hm (fun q => nomatch q)
    have hF : w1.F a = none := by
      obtain ⟨_, _, e⟩ := h1.cell n a _ ha hm
      rcases e with e | ⟨e, _⟩
      · cases e
      · exact e
    have hb := h1.frz ha hm (fun q => nomatch q) ho
    have hl : ∀ i ∈ is, i < w1.th.length := fun i m => by rw [h1.len]; exact hi i m
    have hget : (is.map fun i => (M1.set n .dead).getD i .dead) = is.map fun i => M1.getD i .dead := by
      refine List.map_congr_left fun i m => ?_
      have hin : n ≠ i := fun q => hni (q ▸ m)
      simp only [List.getD_eq_getElem?_getD, List.getElem?_set_ne hin]
    have hlen : (M1.set n .dead).length = M1.length := List.length_set
    refine ⟨_, _, _, _, call_into hb nd (fun i m => by rw [hlen]; exact hi i m) (cs := is.map fun i => rnO (inN is) (M1.getD i .dead)) (by rw [hlen, hget]; exact hc), ?_, q, fun u Mc v w2 H2 s2 h2 r2 q2 => ?_⟩
    · refine rus_app ?_ (hd _)
      have r1' := rus_set (w := w1.put a (.lst ws)) (x := .d (.list ds)) (v := .ref a) (RU.D (.lst Wd.putF (rr.mono (same_put hF)))) (RUs.grow (Grow.put hF) r1) hv
      rw [← hu] at r1'
      exact mapP2 r1' fun x c r => by
        rw [← h1.len] at r
        exact RU.into (F := (w1.put a (.lst ws)).F) hl r
    · obtain ⟨f1, f2, q2⟩ := q2
      obtain ⟨s2', h2'⟩ := unfreeze hF s2 h2 f2
      have r2' := flat_ru (w := w2) (w' := ⟨fun b => if b = a then none else w2.F b, w2.th⟩) rfl f1 r2
      obtain ⟨t, ew, h3, s3⟩ := call_back h1 nd hi s2' h2'
      refine (o.trans s1 h1) _ _ _ _ _ s3 h3 ?_ q2
      rw [ew] at r2'
      rw [← h1.len]
      exact RU.back hl r2'
/-- the handed cells are said by the reading -/
def wCallX (d : DSp) (dv : List PyData) (wr : WA) : WE := fun ρ M Q => ∃ is, wCallC is d dv wr ρ M Q
theorem le_callX {d : DSp} {dvs : List V} {dv : List PyData} {E : XK} {tr : TA} {wr : WA} (hd : ∀ w : Wd, RUs w (dv.map U.d) dvs) (hr : LA tr wr) : LE (tCall (liftSp d) dvs E tr) (wCallX d dv wr) := fun _ _ _ _ _ _ _ h e ⟨_, hq⟩ o => le_callC hd hr h e hq o
/-! ### a call that leaves the cells as they were -/
theorem wback_same : ∀ (is : List Nat) (M : List Ob), wback M is (is.map fun i => M.getD i .dead) = M
  | [], M => rfl
  | i :: is, M => by
    have e : M.set i (M.getD i .dead) = M := by
      by_cases h : i < M.length
      · rw [List.getD_eq_getElem?_getD, List.getElem?_eq_getElem h]; exact List.set_getElem_self h
      · rw [List.set_eq_of_length_le (by omega)]
    show wback (M.set i (M.getD i .dead)) is (is.map fun i => M.getD i .dead) = M
    rw [e]; exact wback_same is M
def wCallQ (is : List Nat) (d : DSp) (dv : List PyData) (wr : WA) : WE := fun ρ M Q => wr ρ M fun us M1 => nodB is = true ∧ allB is M1.length = true ∧ (us.map (rnU (inN is))).map (rnU (outN is M1.length)) = us ∧
  (is.map fun i => rnO (inN is) (M1.getD i .dead)).map (rnO (outN is M1.length)) = (is.map fun i => M1.getD i .dead) ∧
  d (us.map (rnU (inN is)) ++ dv.map U.d) (is.map fun i => rnO (inN is) (M1.getD i .dead)) fun u Mc => Mc = (is.map fun i => rnO (inN is) (M1.getD i .dead)) ∧ Q (rnU (outN is M1.length) u) M1
theorem le_callQ {is : List Nat} {d : DSp} {dvs : List V} {dv : List PyData} {E : XK} {tr : TA} {wr : WA} (hd : ∀ w : Wd, RUs w (dv.map U.d) dvs) (hr : LA tr wr) : LE (tCall (liftSp d) dvs E tr) (wCallQ is d dv wr) := fun _ _ _ _ _ _ _ h e hq o =>
  hr h e hq fun us M1 vs w1 H1 s1 h1 r1 q1 => by
    obtain ⟨nd', hi', hu, hc, q⟩ := q1
    have nd := nodB_ok nd'
    have hi := allB_ok hi'
    have hl : ∀ i ∈ is, i < w1.th.length := fun i m => by rw [h1.len]; exact hi i m
    refine ⟨_, _, _, _, call_into h1 nd hi hc, ?_, q, fun u Mc v w2 H2 s2 h2 r2 q2 => ?_⟩
    · refine rus_app ?_ (hd _)
      rw [← hu] at r1
      exact mapP2 r1 fun a c r => by
        rw [← h1.len] at r
        exact RU.into hl r
    · obtain ⟨eM, q2⟩ := q2
      subst eM
      obtain ⟨t, ew, h3, s3⟩ := call_back h1 nd hi s2 h2
      rw [hc, wback_same] at h3
      refine (o.trans s1 h1) _ _ _ _ _ s3 h3 ?_ q2
      rw [ew] at r2
      rw [← h1.len]
      exact RU.back hl r2
end DL

namespace DL
open PySem L2 PySem.Spec PyProof.Rows
/-! ### cells are dropped, the others told anew: at a def's end, at the end of a loop's turn -/
def memB (i : Nat) : List Nat → Bool
  | [] => false
  | j :: js => Nat.beq i j || memB i js
def inUB (keep : List Nat) : U → Bool
  | .p n => memB n keep
  | _ => true
def inUsB (keep : List Nat) : List U → Bool
  | [] => true
  | u :: us => inUB keep u && inUsB keep us
def inKsB (keep : List Nat) : List (Key × U) → Bool
  | [] => true
  | u :: us => inUB keep u.2 && inKsB keep us
def inFsB (keep : List Nat) : List (Str × U) → Bool
  | [] => true
  | u :: us => inUB keep u.2 && inFsB keep us
def inObB (keep : List Nat) : Ob → Bool
  | .lsp us => inUsB keep us
  | .tpp us => inUsB keep us
  | .dip kvs => inKsB keep kvs
  | .ins _ fs => inFsB keep fs
  | _ => true
def preB : Nat → Nat → List Nat → Bool
  | _, 0, _ => true
  | s, n + 1, k :: ks => Nat.beq k s && preB (s + 1) n ks
  | _, _ + 1, [] => false
def obsB (keep : List Nat) (M : List Ob) : List Nat → Bool
  | [] => true
  | i :: is => inObB keep (M.getD i .dead) && obsB keep M is
def keepB (m0 : Nat) (keep : List Nat) (M : List Ob) : Bool := preB 0 m0 keep && nodB keep && allB keep M.length && obsB keep M keep
theorem memB_ok {i : Nat} : ∀ {is : List Nat}, memB i is = true → i ∈ is
  | [], h => nomatch h
  | j :: js, h => by
    have h' : (Nat.beq i j || memB i js) = true := h
    rw [Bool.or_eq_true] at h'
    rcases h' with h' | h'
    · rw [Nat.eq_of_beq_eq_true h']; exact List.mem_cons_self
    · exact List.mem_cons_of_mem _ (memB_ok h')
theorem inUB_ok {keep : List Nat} {u : U} (h : inUB keep u = true) : inU keep u := by
  cases u with
  | p n => exact memB_ok h
  | d d => trivial
  | v x => trivial
  | s K ns => trivial
theorem inUsB_ok {keep : List Nat} : ∀ {us : List U}, inUsB keep us = true → ∀ u ∈ us, inU keep u
  | [], _, _, h => nomatch h
  | u :: us, h, x, hx => by
    have h' : (inUB keep u && inUsB keep us) = true := h
    rw [Bool.and_eq_true] at h'
    rcases List.mem_cons.mp hx with rfl | hx
    · exact inUB_ok h'.1
    · exact inUsB_ok h'.2 x hx
theorem inKsB_ok {keep : List Nat} : ∀ {us : List (Key × U)}, inKsB keep us = true → ∀ u ∈ us, inU keep u.2
  | [], _, _, h => nomatch h
  | u :: us, h, x, hx => by
    have h' : (inUB keep u.2 && inKsB keep us) = true := h
    rw [Bool.and_eq_true] at h'
    rcases List.mem_cons.mp hx with rfl | hx
    · exact inUB_ok h'.1
    · exact inKsB_ok h'.2 x hx
theorem inFsB_ok {keep : List Nat} : ∀ {us : List (Str × U)}, inFsB keep us = true → ∀ u ∈ us, inU keep u.2
  | [], _, _, h => nomatch h
  | u :: us, h, x, hx => by
    have h' : (inUB keep u.2 && inFsB keep us) = true := h
    rw [Bool.and_eq_true] at h'
    rcases List.mem_cons.mp hx with rfl | hx
    · exact inUB_ok h'.1
    · exact inFsB_ok h'.2 x hx
theorem inObB_ok {keep : List Nat} {o : Ob} (h : inObB keep o = true) : inOb keep o := by
  cases o with
  | lsp us => exact inUsB_ok h
  | tpp us => exact inUsB_ok h
  | dip kvs => exact inKsB_ok h
  | ins C fs => exact inFsB_ok h
  | lst ds => trivial
  | dic kvs => trivial
  | dit kvs => trivial
  | lkd kvs od => trivial
  | dead => trivial
theorem preB_ok : ∀ {n s : Nat} {ks : List Nat}, preB s n ks = true → ks = List.range' s n ++ ks.drop n
  | 0, s, ks, _ => by simp
  | n + 1, s, [], h => nomatch h
  | n + 1, s, k :: ks, h => by
    have h' : (Nat.beq k s && preB (s + 1) n ks) = true := h
    rw [Bool.and_eq_true] at h'
    have e1 := Nat.eq_of_beq_eq_true h'.1
    have e2 := preB_ok h'.2
    subst e1
    rw [List.range'_succ, List.drop_succ_cons, List.cons_append, ← e2]
theorem obsB_ok {keep : List Nat} {M : List Ob} : ∀ {is : List Nat}, obsB keep M is = true → ∀ i ∈ is, inOb keep (M.getD i .dead)
  | [], _, _, h => nomatch h
  | i :: is, h, j, hj => by
    have h' : (inObB keep (M.getD i .dead) && obsB keep M is) = true := h
    rw [Bool.and_eq_true] at h'
    rcases List.mem_cons.mp hj with rfl | hj
    · exact inObB_ok h'.1
    · exact obsB_ok h'.2 j hj
theorem keepB_ok {m0 : Nat} {keep : List Nat} {M : List Ob} (h : keepB m0 keep M = true) : (∃ r, keep = List.range m0 ++ r) ∧ keep.Nodup ∧ (∀ i ∈ keep, i < M.length) ∧ ∀ i ∈ keep, inOb keep (M.getD i .dead) := by
  unfold keepB at h
  simp only [Bool.and_eq_true] at h
  obtain ⟨⟨⟨h1, h2⟩, h3⟩, h4⟩ := h
  refine ⟨⟨keep.drop m0, ?_⟩, nodB_ok h2, allB_ok h3, obsB_ok h4⟩
  rw [List.range_eq_range']
  exact preB_ok h1
/-- a def's end -/
theorem fin_k {M0 : List Ob} {Qu : U → List Ob → Prop} {u : U} {M' : List Ob} (keep : List Nat) (h : (keepB M0.length keep M' && inUB keep u) = true)
    (q : Qu (rnU (fun n => keep.idxOf n) u) (keep.map fun i => rnO (fun n => keep.idxOf n) (M'.getD i .dead))) : Fin' M0 Qu u M' := by
  rw [Bool.and_eq_true] at h
  obtain ⟨⟨r, e⟩, h2, h3, h4⟩ := keepB_ok h.1
  exact .inr ⟨keep, r, e, h2, h3, inUB_ok h.2, h4, q⟩
theorem keep_core {w w' : Wd} {M M' : List Ob} {H H' : Hp} {keep rr : List Nat} (h : Hold w M H) (s : Step w H w' H') (h' : Hold w' M' H') (ek : keep = List.range M.length ++ rr) (nd : keep.Nodup) (lt : ∀ i ∈ keep, i < M'.length) (ko : ∀ i ∈ keep, inOb keep (M'.getD i .dead)) :
    Step w H ⟨w'.F, keep.map fun i => w'.th.getD i 0⟩ H' ∧ Hold ⟨w'.F, keep.map fun i => w'.th.getD i 0⟩ (keep.map fun i => rnO (fun n => keep.idxOf n) (M'.getD i .dead)) H' := by
  obtain ⟨F', th'⟩ := w'
  obtain ⟨t, et, ht⟩ := s.th
  have et' : th' = w.th ++ t := et
  have hl' : th'.length = M'.length := h'.len
  have eold : (List.range M.length).map (fun i => th'.getD i 0) = w.th := by
    refine List.ext_getElem? fun i => ?_
    rw [List.getElem?_map]
    by_cases hi : i < M.length
    · have hi' : i < w.th.length := by rw [h.len]; exact hi
      rw [List.getElem?_range hi]
      show some (th'.getD i 0) = _
      rw [et', List.getD_eq_getElem?_getD, List.getElem?_append_left hi', List.getElem?_eq_getElem hi']; rfl
    · rw [List.getElem?_eq_none (by simpa using hi), List.getElem?_eq_none (by rw [h.len]; omega)]; rfl
  have inj : ∀ i ∈ keep, ∀ j ∈ keep, th'.getD i 0 = th'.getD j 0 → i = j := fun i hi j hj e => by
    have li : i < th'.length := by rw [hl']; exact lt i hi
    have lj : j < th'.length := by rw [hl']; exact lt j hj
    have e' : th'[i] = th'[j] := by
      rw [List.getD_eq_getElem?_getD, List.getD_eq_getElem?_getD, List.getElem?_eq_getElem li, List.getElem?_eq_getElem lj] at e
      exact e
    apply Classical.byContradiction
    intro ne
    rcases Nat.lt_or_gt_of_ne ne with q | q
    · exact List.pairwise_iff_getElem.mp (List.nodup_iff_pairwise_ne.mp h'.nd) i j li lj q e'
    · exact List.pairwise_iff_getElem.mp (List.nodup_iff_pairwise_ne.mp h'.nd) j i lj li q e'.symm
  refine ⟨⟨s.F, ⟨rr.map fun i => th'.getD i 0, ?_, fun a ha => ?_⟩, s.fr, s.own⟩, ⟨?_, ?_, h'.sub, fun n a b e1 e2 => ?_⟩⟩
  · show keep.map _ = _
    rw [ek, List.map_append, eold]
  · obtain ⟨i, hi, rfl⟩ := List.mem_map.mp ha
    have hik : i ∈ keep := by rw [ek]; exact List.mem_append_right _ hi
    have hge : M.length ≤ i := by
      have n2 := nd
      rw [ek] at n2
      apply Classical.byContradiction
      intro hlt
      exact (List.nodup_append.mp n2).2.2 i (List.mem_range.mpr (by omega)) i hi rfl
    have li : i < th'.length := by rw [hl']; exact lt i hik
    apply ht
    rw [List.getD_eq_getElem?_getD, et', List.getElem?_append_right (by rw [h.len]; exact hge)]
    have l2 : i - w.th.length < t.length := by rw [et', List.length_append] at li; rw [h.len] at li ⊢; omega
    rw [List.getElem?_eq_getElem l2]
    exact List.getElem_mem l2
  · show (keep.map _).length = (keep.map _).length
    rw [List.length_map, List.length_map]
  · show (keep.map _).Nodup
    refine List.pairwise_map.mpr (List.Pairwise.imp_of_mem (fun {i j} hi hj ne e => ne (inj i hi j hj e)) nd)
  · have e1' : (keep.map fun i => th'.getD i 0)[n]? = some a := e1
    rw [List.getElem?_map] at e1' e2
    cases ei : keep[n]? with
    | none => rw [ei] at e1'; cases e1'
    | some i =>
      rw [ei] at e1' e2
      have hik : i ∈ keep := List.mem_of_getElem? ei
      have li : i < th'.length := by rw [hl']; exact lt i hik
      have lm : i < M'.length := lt i hik
      have ea : th'[i]? = some a := by
        have z : th'.getD i 0 = a := Option.some.inj e1'
        rw [List.getD_eq_getElem?_getD, List.getElem?_eq_getElem li] at z
        rw [List.getElem?_eq_getElem li]; exact congrArg some z
      have eb : rnO (fun n => keep.idxOf n) (M'.getD i .dead) = b := Option.some.inj e2
      have hM : M'[i]? = some (M'.getD i .dead) := by rw [List.getD_eq_getElem?_getD, List.getElem?_eq_getElem lm]; rfl
      obtain ⟨ob, e3, e4⟩ := h'.cell i a _ ea hM
      refine ⟨ob, e3, ?_⟩
      rcases e4 with e4 | ⟨e4, e5⟩
      · left; rw [← eb, e4]; rfl
      · right; rw [← eb]; exact ⟨e4, RO.keep (F := F') (th := th') e5 (ko i hik)⟩
def keepP (keep : List Nat) : Option U → Option U
  | some (.p n) => if memB n keep = true then some (.p (keep.idxOf n)) else none
  | x => x
theorem env_keep {F : Hp} {th : List Addr} {σ : L2.St} {ρ : Rho} {keep : List Nat} (e : Env ⟨F, th⟩ σ ρ) : Env ⟨F, keep.map fun i => th.getD i 0⟩ σ (ρ.map (keepP keep)) := by
  refine ⟨by rw [List.length_map]; exact e.len, fun i u h => ?_⟩
  rw [List.getElem?_map] at h
  cases q : ρ[i]? with
  | none => rw [q] at h; cases h
  | some x =>
    rw [q] at h
    have h' : keepP keep x = some u := Option.some.inj h
    cases x with
    | none => cases h'
    | some x =>
      obtain ⟨v, hv, r⟩ := e.at_ i x q
      cases x with
      | p n =>
        simp only [keepP] at h'
        split at h'
        · rename_i hm
          cases h'
          exact ⟨v, hv, RU.keep r (memB_ok hm)⟩
        · cases h'
      | d d => cases h'; exact ⟨v, hv, r⟩
      | v x => cases h'; exact ⟨v, hv, r⟩
      | s K ns => cases h'; exact ⟨v, hv, r⟩
/-- the turn of a loop ends: cells are dropped -/
def Gc (m0 : Nat) (P : Rho → List Ob → Prop) (ρ : Rho) (M : List Ob) : Prop := ∃ keep : List Nat, keepB m0 keep M = true ∧ P (ρ.map (keepP keep)) (keep.map fun i => rnO (fun n => keep.idxOf n) (M.getD i .dead))
def wLoopG (m0 : Nat) (G : List Ob → Prop) (wg : WG) (wb : WS) (De : DEnds) : List U → Rho → List Ob → Prop
  | [], ρ, M => G M ∧ De.nx ρ M
  | u :: us, ρ, M => G M ∧ wg u ρ M fun ρ1 M1 => wb { De with nx := Gc m0 (wLoopG m0 G wg wb De us), ct := Gc m0 (wLoopG m0 G wg wb De us), bk := De.nx } ρ1 M1
def wForG (ww : WI) (wg : WG) (wb : WS) : WS := fun De ρ M => ww ρ M fun us G M1 => wLoopG M1.length G wg wb De us ρ M1
theorem wLoopG_G {m0 : Nat} {G : List Ob → Prop} {wg : WG} {wb : WS} {De : DEnds} : ∀ {us : List U} {ρ : Rho} {M : List Ob}, wLoopG m0 G wg wb De us ρ M → G M
  | [], _, _, h => h.1
  | _ :: _, _, _, h => h.1
theorem ls_forG {wi : TI} {g : TG} {tb : TS} {ww : WI} {wg : WG} {wb : WS} (hi : LI wi ww) (hg : LG g wg) (hb : LS tb wb) : LS (tFor wi g tb) (wForG ww wg wb) := fun w M H σ ρ De E h e hq o => by
  refine hi h e hq fun us G M1 J w1 H1 s1 h1 j q => ?_
  refine ⟨fun i m σ' H' => m = us.length - i ∧ ∃ w' M' ρ', Step w1 H1 w' H' ∧ Hold w' M' H' ∧ Env w' σ' ρ' ∧ wLoopG M1.length G wg wb De (us.drop i) ρ' M', ⟨us.length, by simp, w1, M1, ρ, Step.refl _ _, h1, e.grow s1.grow, q⟩, ?_⟩
  rintro i m σ' H' ⟨hm, w', M', ρ', s', h', e', q'⟩
  by_cases hi' : i < us.length
  · right
    have hG := wLoopG_G q'
    rw [List.drop_eq_getElem_cons hi'] at q'
    refine ⟨j.go i s'.grow h' hG hi', fun σ2 H2 => ∃ w2 M2 ρ2, Step w1 H1 w2 H2 ∧ Hold w2 M2 H2 ∧ Env w2 σ2 ρ2 ∧ wLoopG M1.length G wg wb De (us.drop (i + 1)) ρ2 M2, ?_, fun v H2 y => ?_⟩
    · rintro σ2 H2 ⟨w2, M2, ρ2, z⟩
      exact ⟨us.length - (i + 1), by omega, rfl, w2, M2, ρ2, z⟩
    · obtain ⟨w2, s2, h2, r2⟩ := j.yld i s'.grow h' hG (List.getElem?_eq_getElem hi') y
      have s3 := s'.trans h' s2
      refine hg h2 (e'.grow s2.grow) r2 q'.2 fun ρ3 M3 σ3 w3 H3 s4 h3 e3 q3 => ?_
      have s5 := s3.trans h2 s4
      have on := (o.nx.trans s1 h1).trans s5 h3
      refine hb h3 e3 q3 ⟨?_, (o.rt.trans s1 h1).trans s5 h3, on, ?_⟩
      all_goals
        intro ρ4 M4 σ4 w4 H4 s6 h4 e4 q4
        obtain ⟨keep, hk, q4⟩ := q4
        obtain ⟨⟨r, ek⟩, k2, k3, k4⟩ := keepB_ok hk
        obtain ⟨s7, h7⟩ := keep_core h1 (s5.trans h3 s6) h4 ek k2 k3 k4
        exact ⟨_, _, _, s7, h7, env_keep e4, q4⟩
  · left
    rw [List.drop_of_length_le (by omega)] at q'
    exact ⟨j.stop i s'.grow h' q'.1 (by omega), (o.nx.trans s1 h1) _ _ _ _ _ s' h' e' q'.2⟩
theorem wLoopG_rec {m0 : Nat} {G : List Ob → Prop} {wg : WG} {wb : WS} {De : DEnds} (I : List U → Rho → List Ob → Prop) (h0 : ∀ ρ M, I [] ρ M → G M ∧ De.nx ρ M)
    (h1 : ∀ u us, (∀ ρ M, I us ρ M → wLoopG m0 G wg wb De us ρ M) → ∀ ρ M, I (u :: us) ρ M → G M ∧ wg u ρ M fun ρ1 M1 => wb { De with nx := Gc m0 (wLoopG m0 G wg wb De us), ct := Gc m0 (wLoopG m0 G wg wb De us), bk := De.nx } ρ1 M1) :
    ∀ us ρ M, I us ρ M → wLoopG m0 G wg wb De us ρ M := by
  intro us
  induction us with
  | nil => intro ρ M h; exact h0 ρ M h
  | cons u us ih => intro ρ M h; exact h1 u us ih ρ M h
/-! ### the handed cells are said by the reading -/
def wEqOwnX (C : Addr) (d : DSp) : R2' := fun x y M Q => ∃ is, wEqOwn C is d x y M Q
theorem lr_eqOwnX {C : Addr} {d : DSp} {E : XK} : LR (rOwn C (liftSp d) E) (wEqOwnX C d) := fun w M H x y vx vy Qu Q h rx ry ⟨_, hq⟩ o => lr_eqOwn h rx ry hq o
def wNeOwnX (C : Addr) (d : DSp) : R2' := fun x y M Q => ∃ is, wNeOwn C is d x y M Q
theorem lr_neOwnX {C : Addr} {d : DSp} {E : XK} : LR (rNeOwn C (liftSp d) E) (wNeOwnX C d) := fun w M H x y vx vy Qu Q h rx ry ⟨_, hq⟩ o => lr_neOwn h rx ry hq o
def wMethX (C : Addr) (m : Str) (d : DSp) (dv : List PyData) (we : WE) (wr : WA) : WE := fun ρ M Q => ∃ is, wMeth C m is d dv we wr ρ M Q
theorem le_methX {tr : TA} {wr : WA} {te : TE} {we : WE} {C : Addr} {m : Str} {d : DSp} {dvs : List V} {dv : List PyData} {E : XK} (hd : ∀ w : Wd, RUs w (dv.map U.d) dvs) (he : LE te we) (hr : LA tr wr) : LE (tMeth C m (liftSp d) dvs E te tr) (wMethX C m d dv we wr) := fun _ _ _ _ _ _ _ h e ⟨_, hq⟩ o => le_meth hd he hr h e hq o
def wCallQX (d : DSp) (dv : List PyData) (wr : WA) : WE := fun ρ M Q => ∃ is, wCallQ is d dv wr ρ M Q
theorem le_callQX {d : DSp} {dvs : List V} {dv : List PyData} {E : XK} {tr : TA} {wr : WA} (hd : ∀ w : Wd, RUs w (dv.map U.d) dvs) (hr : LA tr wr) : LE (tCall (liftSp d) dvs E tr) (wCallQX d dv wr) := fun _ _ _ _ _ _ _ h e ⟨_, hq⟩ o => le_callQ hd hr h e hq o
/-! ### Trim by a look -/
theorem okOb_range {m : Nat} {o : Ob} (h : inOb (List.range m) o) : okOb m o := by
  have u : ∀ {u : U}, inU (List.range m) u → okU m u := fun {u} h => by
    cases u with
    | p n => exact List.mem_range.mp h
    | d d => trivial
    | v x => trivial
    | s K ns => trivial
  cases o with
  | lsp us => exact fun x hx => u (h x hx)
  | tpp us => exact fun x hx => u (h x hx)
  | dip kvs => exact fun x hx => u (h x hx)
  | ins C fs => exact fun x hx => u (h x hx)
  | lst ds => trivial
  | dic kvs => trivial
  | dit kvs => trivial
  | lkd kvs od => trivial
  | dead => trivial
def trimB (m : Nat) (M : List Ob) : Bool := Nat.ble m M.length && obsB (List.range m) M (List.range m)
theorem trim_k {M0 : List Ob} {Q : Rho → List Ob → Prop} {ρ : Rho} {M : List Ob} (h : trimB M0.length M = true) (q : Q (ρ.map (dropP M0.length)) (M.take M0.length)) : Trim M0 Q ρ M := by
  unfold trimB at h
  rw [Bool.and_eq_true] at h
  refine ⟨Nat.le_of_ble_eq_true h.1, fun o ho => ?_, q⟩
  obtain ⟨i, hi, e⟩ := List.getElem_of_mem ho
  rw [List.length_take] at hi
  have hm : i < M.length := by omega
  have := obsB_ok h.2 i (List.mem_range.mpr (by omega))
  rw [List.getD_eq_getElem?_getD, List.getElem?_eq_getElem hm] at this
  rw [List.getElem_take] at e
  rw [← e]
  exact okOb_range this
/-! ### a call that leaves the handed cells as they were and makes new ones -/
theorem wback_more : ∀ (is : List Nat) (M X : List Ob), wback M is ((is.map fun i => M.getD i .dead) ++ X) = M ++ X
  | [], M, X => wback_nil M X
  | i :: is, M, X => by
    have e : M.set i (M.getD i .dead) = M := by
      by_cases h : i < M.length
      · rw [List.getD_eq_getElem?_getD, List.getElem?_eq_getElem h]; exact List.set_getElem_self h
      · rw [List.set_eq_of_length_le (by omega)]
    show wback (M.set i (M.getD i .dead)) is ((is.map fun i => M.getD i .dead) ++ X) = M ++ X
    rw [e]; exact wback_more is M X
def cN (is : List Nat) (d : DSp) (dv : List PyData) (us : List U) (M1 : List Ob) (Q : U → List Ob → Prop) : Prop := nodB is = true ∧ allB is M1.length = true ∧ (us.map (rnU (inN is))).map (rnU (outN is M1.length)) = us ∧
  (is.map fun i => rnO (inN is) (M1.getD i .dead)).map (rnO (outN is M1.length)) = (is.map fun i => M1.getD i .dead) ∧
  d (us.map (rnU (inN is)) ++ dv.map U.d) (is.map fun i => rnO (inN is) (M1.getD i .dead)) fun u Mc => ∃ new, Mc = (is.map fun i => rnO (inN is) (M1.getD i .dead)) ++ new ∧ Q (rnU (outN is M1.length) u) (M1 ++ new.map (rnO (outN is M1.length)))
theorem cN_ok {is : List Nat} {d : DSp} {dvs : List V} {dv : List PyData} {E : XK} {w1 : Wd} {M1 : List Ob} {H1 : Hp} {us : List U} {vs : List V} {Qu : U → List Ob → Prop} {Q : VK} (hd : ∀ w : Wd, RUs w (dv.map U.d) dvs) (h1 : Hold w1 M1 H1) (r1 : RUs w1 us vs) (q1 : cN is d dv us M1 Qu) (o : Out RU w1 H1 Qu Q) : liftSp d (vs ++ dvs) H1 Q E := by
  obtain ⟨nd', hi', hu, hc, q⟩ := q1
  have nd := nodB_ok nd'
  have hi := allB_ok hi'
  have hl : ∀ i ∈ is, i < w1.th.length := fun i m => by rw [h1.len]; exact hi i m
  refine ⟨_, _, _, _, call_into h1 nd hi hc, ?_, q, fun u Mc v w2 H2 s2 h2 r2 q2 => ?_⟩
  · refine rus_app ?_ (hd _)
    rw [← hu] at r1
    exact mapP2 r1 fun a c r => by
      rw [← h1.len] at r
      exact RU.into hl r
  · obtain ⟨new, eM, q2⟩ := q2
    subst eM
    obtain ⟨t, ew, h3, s3⟩ := call_back h1 nd hi s2 h2
    rw [List.map_append, hc, wback_more] at h3
    refine o _ _ _ _ _ s3 h3 ?_ q2
    rw [ew] at r2
    rw [← h1.len]
    exact RU.back hl r2
def wCallN (is : List Nat) (d : DSp) (dv : List PyData) (wr : WA) : WE := fun ρ M Q => wr ρ M fun us M1 => cN is d dv us M1 Q
theorem le_callN {is : List Nat} {d : DSp} {dvs : List V} {dv : List PyData} {E : XK} {tr : TA} {wr : WA} (hd : ∀ w : Wd, RUs w (dv.map U.d) dvs) (hr : LA tr wr) : LE (tCall (liftSp d) dvs E tr) (wCallN is d dv wr) := fun _ _ _ _ _ _ _ h e hq o =>
  hr h e hq fun us M1 vs w1 H1 s1 h1 r1 q1 => by
    obtain ⟨w, M, us', Qu, hw, r, q, o'⟩ := cN_ok (E := E) hd h1 r1 q1 (o.trans s1 h1)
    exact ⟨w, M, us', Qu, hw, r, q, o'⟩
def wCallNX (d : DSp) (dv : List PyData) (wr : WA) : WE := fun ρ M Q => ∃ is, wCallN is d dv wr ρ M Q
theorem le_callNX {d : DSp} {dvs : List V} {dv : List PyData} {E : XK} {tr : TA} {wr : WA} (hd : ∀ w : Wd, RUs w (dv.map U.d) dvs) (hr : LA tr wr) : LE (tCall (liftSp d) dvs E tr) (wCallNX d dv wr) := fun _ _ _ _ _ _ _ h e ⟨_, hq⟩ o => le_callN hd hr h e hq o
def wEqOwnN (C : Addr) (is : List Nat) (d : DSp) : R2' := fun x y M Q => ∃ n fs m gs, x = .p n ∧ y = .p m ∧ M[n]? = some (.ins C fs) ∧ M[m]? = some (.ins C gs) ∧ cN is d [] [x, y] M fun u M' => ∃ t, u = .d (.bool t) ∧ Q (.d (.bool t)) M'
theorem lr_eqOwnN {C : Addr} {is : List Nat} {d : DSp} {E : XK} : LR (rOwn C (liftSp d) E) (wEqOwnN C is d) := fun w M H x y vx vy Qu Q h rx ry hq o => by
  obtain ⟨n, fs, m, gs, rfl, rfl, hm, hm2, q⟩ := hq
  obtain ⟨a, ob, rfl, ha, ho, dx, gs1, rfl, r⟩ := cell_at h rx hm (fun q => nomatch q)
  obtain ⟨b, ob2, rfl, hb, ho2, dy, gs2, rfl, r2⟩ := cell_at h ry hm2 (fun q => nomatch q)
  refine ⟨a, b, dx, dy, gs1, gs2, rfl, rfl, ho, ho2, ?_⟩
  have := cN_ok (dvs := []) (dv := []) (E := E) (us := [.p n, .p m]) (vs := [.ref a, .ref b]) (fun _ => .nil) h (.cons rx (.cons ry .nil)) q (Q := fun v H' => ∃ t, v = .bl t ∧ Q (.bl t) H') fun u M' v w' H' s' h' r' q' => by
    obtain ⟨t, rfl, q'⟩ := q'
    have e : v = .bl t := by cases (show Rp w'.F (.bool t) v from r'); rfl
    subst e
    exact ⟨t, rfl, o _ _ _ _ _ s' h' r' q'⟩
  exact this
def wNeOwnN (C : Addr) (is : List Nat) (d : DSp) : R2' := fun x y M Q => ∃ n fs m gs, x = .p n ∧ y = .p m ∧ M[n]? = some (.ins C fs) ∧ M[m]? = some (.ins C gs) ∧ cN is d [] [x, y] M fun u M' => ∃ t, u = .d (.bool t) ∧ Q (.d (.bool (!t))) M'
theorem lr_neOwnN {C : Addr} {is : List Nat} {d : DSp} {E : XK} : LR (rNeOwn C (liftSp d) E) (wNeOwnN C is d) := fun w M H x y vx vy Qu Q h rx ry hq o => by
  obtain ⟨n, fs, m, gs, rfl, rfl, hm, hm2, q⟩ := hq
  obtain ⟨a, ob, rfl, ha, ho, dx, gs1, rfl, r⟩ := cell_at h rx hm (fun q => nomatch q)
  obtain ⟨b, ob2, rfl, hb, ho2, dy, gs2, rfl, r2⟩ := cell_at h ry hm2 (fun q => nomatch q)
  refine ⟨a, b, dx, dy, gs1, gs2, rfl, rfl, ho, ho2, ?_⟩
  have := cN_ok (dvs := []) (dv := []) (E := E) (us := [.p n, .p m]) (vs := [.ref a, .ref b]) (fun _ => .nil) h (.cons rx (.cons ry .nil)) q (Q := fun v H' => ∃ t, v = .bl t ∧ Q (.bl (!t)) H') fun u M' v w' H' s' h' r' q' => by
    obtain ⟨t, rfl, q'⟩ := q'
    have e : v = .bl t := by cases (show Rp w'.F (.bool t) v from r'); rfl
    subst e
    exact ⟨t, rfl, o _ _ _ _ _ s' h' (RU.D (.bl _)) q'⟩
  exact this
end DL

/-! ### sum(lists, start) -/
namespace DLsum
open PySem PySem.Spec PyProof.Rows
theorem args_sum2 (a b : Value) : argsOk "sum" ⟨[a, b], []⟩ := by unfold argsOk; kernel_rfl
theorem sub_list_str : isSubtype (.type "list") (.type "str") = pure false := by rw [isSubtype_type]; kernel_rfl
theorem sub_list_bytes : isSubtype (.type "list") (.type "bytes") = pure false := by rw [isSubtype_type]; kernel_rfl
theorem sub_list_bytearray : isSubtype (.type "list") (.type "bytearray") = pure false := by rw [isSubtype_type]; kernel_rfl
section
variable {prog : Program} {w : World} {A : Around} {E : Value → Shared → Prop} {s : Shared}
theorem add_raw {l b : Addr} {vs ws : List Value} {Q : Value → Shared → Prop} (hl : s.heap.IsList l vs.toArray) (hb : s.heap.IsList b ws.toArray)
    (h : Q (.ref s.heap.objs.size) { s with heap := s.heap.push { cls := .type "list", data := .seq (vs ++ ws).toArray } })
    (hsz : vs.length + ws.length ≤ sizeLine) :
    wpAny (model prog w) A (binaryOp .Add (.ref l) (.ref b)) Q E s := by
  obtain ⟨⟨cls, dd, data, sl⟩, ho, hc, n, hd⟩ := id hl
  obtain ⟨⟨cls2, dd2, data2, sl2⟩, ho2, hc2, n2, hd2⟩ := id hb
  simp only at hc hd hc2 hd2
  subst hc hd hc2 hd2
  have e : vs.toArray ++ ws.toArray = (vs ++ ws).toArray := by simp
  refine concat_meets ⟨_, ho, rfl⟩ ⟨_, ho2, rfl⟩ noFill_list_add seq_list_add PySem.F.slot_list_add PySem.F.entry_list_add (PySem.F.args_list_add_2 _ _) (list_addW l b vs.toArray ws.toArray n n2 dd dd2 sl sl2 (by simpa using hsz)) ⟨ho, ho2, ?_⟩
  rw [e]
  exact h
theorem loop {R : Result → Shared → Prop} (hh : A.in1.handled = none) {h0 : Heap} {l S : Addr} {its : Array Value} (hl0 : h0.IsList l its) (hS0 : h0.objs.size < S) (pss : List (List Value))
    (hp : ∀ (i : Nat) (v : Value), its[i]? = some v → ∃ a ps, v = .ref a ∧ pss[i]? = some ps ∧ h0.IsList a ps.toArray) (hn : pss.length = its.size) :
    ∀ (k i : Nat) (s : Shared) (tot : Addr) (ts : List Value) (c : Nat), its.size - i = k → i ≤ its.size → s.heap.IsListIter h0.objs.size l i → (∀ b o, h0.get? b = some o → s.heap.get? b = some o) →
    s.heap.get? S = some { cls := .type "list", dict := none, data := .seq #[.ref tot] c, slots := #[] } → s.heap.IsList tot ts.toArray → tot ≠ S → tot ≠ h0.objs.size →
    ts.length + ((pss.drop i).flatten).length ≤ sizeLine →
    (k = 0 → h0.objs.size < tot ∧ ∃ n, s.heap.get? tot = some { cls := .type "list", data := .seq ts.toArray n }) →
    (∀ h' tk p n, (∀ b o, h0.get? b = some o → h'.get? b = some o) → h0.objs.size < p → h'.get? p = some { cls := .type "list", data := .seq (ts ++ (pss.drop i).flatten).toArray n } →
      R (.ok (.ret (.ref p))) { s with heap := h', toks := tk }) →
    codeAny (model prog w) A (.builtin "sum.loop" ⟨[.ref h0.objs.size, .ref S, rawInt 2, rawInt 0], []⟩) R s := by
  have hlI : l ≠ h0.objs.size := by obtain ⟨_, e, _⟩ := hl0; exact Nat.ne_of_lt (Heap.lt_size e)
  have W := Walks.list (prog := prog) (w := w) (A := A.in1) hh h0.objs.size l hlI its
  have hSI : S ≠ h0.objs.size := Nat.ne_of_gt hS0
  intro k
  induction k with
  | zero =>
    intro i s tot ts c hk hi hit hold hS ht htS htI hz hd hR
    have hin : i = its.size := by omega
    subst hin
    obtain ⟨hd1, n, hd2⟩ := hd rfl
    refine codeAny_builtin F.entry_sum_loop ?_
    rw [Around.under_plainId F.plain_sum_loop _]
    show wpAny _ A.in1 (seqItems? (.ref S) >>= _) _ _ s
    refine wpAny_bind (wpAny_seqItems hS rfl ?_)
    show wpAny _ A.in1 (tryCatch (pyNext (.ref h0.objs.size)) _ >>= _) _ _ s
    refine wpAny_bind (wpAny_tryCatch (W.done s _ _ ⟨hit, hl0.at fun o e => hold _ o e⟩ fun h' tk hk' => ?_))
    refine wpAny_pure (hR h' tk tot n (fun b o e => hk' b o (fun hm => ?_) (hold b o e)) hd1 ?_)
    · have : b = h0.objs.size := by simpa using hm
      exact absurd (Heap.lt_size e) (by rw [this]; exact Nat.lt_irrefl _)
    · rw [List.drop_eq_nil_of_le (by omega), List.flatten_nil, List.append_nil]
      exact hk' _ _ (by simpa using htI) hd2
  | succ k ih =>
    intro i s tot ts c hk hi hit hold hS ht htS htI hz hd hR
    have hlt : i < its.size := by omega
    refine codeAny_builtin F.entry_sum_loop ?_
    rw [Around.under_plainId F.plain_sum_loop _]
    show wpAny _ A.in1 (seqItems? (.ref S) >>= _) _ _ s
    refine wpAny_bind (wpAny_seqItems hS rfl ?_)
    show wpAny _ A.in1 (tryCatch (pyNext (.ref h0.objs.size)) _ >>= _) _ _ s
    refine wpAny_bind (wpAny_tryCatch (W.item i s _ _ hlt ⟨hit, hl0.at fun o e => hold _ o e⟩ fun v h' tk hP hst' hk' => ?_))
    obtain ⟨a, ps, rfl, hps, ha⟩ := hp i v hP
    have hS' := hk' S _ (by simpa using hSI) hS
    have hold' : ∀ b o, h0.get? b = some o → h'.get? b = some o := fun b o e => hk' b o (fun hm => by
      have : b = h0.objs.size := by simpa using hm
      exact absurd (Heap.lt_size e) (by rw [this]; exact Nat.lt_irrefl _)) (hold b o e)
    have ht' : h'.IsList tot ts.toArray := ht.at fun o e => hk' _ o (by simpa using htI) e
    have hdrop : pss.drop i = ps :: pss.drop (i + 1) := by
      have hi' := (List.getElem?_eq_some_iff.mp hps).1
      rw [List.drop_eq_getElem_cons hi', (List.getElem?_eq_some_iff.mp hps).2]
    rw [hdrop, List.flatten_cons, List.length_append] at hz
    show wpAny _ A.in1 ((holding [Value.ref a] (binaryOp .Add (.ref tot) (.ref a))).attempt >>= _) _ _ _
    refine wpAny_bind (wpAny_attempt (wpAny_holding (add_raw (s := { s with heap := h', toks := tk }) ht' (ha.at fun o e => hold' _ o e) ?_ (by omega))))
    show wpAny _ A.in1 (updateSeq S (fun _ => #[.ref h'.objs.size]) >>= _) _ _ _
    have hS1 : (h'.push { cls := .type "list", data := .seq (ts ++ ps).toArray }).get? S = some { cls := .type "list", dict := none, data := .seq #[.ref tot] c, slots := #[] } := Heap.get?_push_of_some _ hS'
    refine wpAny_bind (wpAny_updateSeq (s := { s with heap := h'.push { cls := .type "list", data := .seq (ts ++ ps).toArray }, toks := tk }) hS1 rfl ?_)
    have hS₂ := Heap.get?_update_self (Obj.mapSeq fun _ => #[Value.ref h'.objs.size]) hS1 rfl
    refine wpAny_bind (wpAny_letGo ?_)
    have hlast : S < h'.objs.size := Heap.lt_size hS'
    have hne2 : S ≠ h'.objs.size := Nat.ne_of_lt hlast
    have hnew : ((h'.push { cls := .type "list", data := .seq (ts ++ ps).toArray }).update S (Obj.mapSeq fun _ => #[Value.ref h'.objs.size])).get? h'.objs.size = some { cls := .type "list", data := .seq (ts ++ ps).toArray } := (Heap.get?_update_other _ _ hne2).trans (Heap.get?_push_size _ rfl)
    refine wpAny_bind (wpAny_updateSeq (s := { s with heap := (h'.push { cls := .type "list", data := .seq (ts ++ ps).toArray }).update S (Obj.mapSeq fun _ => #[Value.ref h'.objs.size]), toks := tk }) hS₂ rfl (wpAny_pure ⟨plainId_quiet F.plain_sum_loop _, ?_⟩))
    have hnew2 : (((h'.push { cls := .type "list", data := .seq (ts ++ ps).toArray }).update S (Obj.mapSeq fun _ => #[Value.ref h'.objs.size])).update S (Obj.mapSeq fun _ => #[Value.ref h'.objs.size])).get? h'.objs.size = some { cls := .type "list", data := .seq (ts ++ ps).toArray } := (Heap.get?_update_other _ _ hne2).trans hnew
    refine ih (i + 1) { s with heap := ((h'.push { cls := .type "list", data := .seq (ts ++ ps).toArray }).update S (Obj.mapSeq fun _ => #[Value.ref h'.objs.size])).update S (Obj.mapSeq fun _ => #[Value.ref h'.objs.size]), toks := tk } h'.objs.size (ts ++ ps) _ (by omega) hlt ?_ (fun b o e => ?_) (Heap.get?_update_self _ hS₂ rfl) ⟨_, hnew2, rfl, _, rfl⟩ (Ne.symm hne2) (Nat.ne_of_gt (Nat.lt_trans hS0 hlast)) (by rw [List.length_append]; omega) (fun _ => ⟨Nat.lt_trans hS0 hlast, _, hnew2⟩) fun h'' tk'' p n a1 a2 a3 => ?_
    · refine hst'.1.at fun o e => ?_
      exact (Heap.get?_update_other _ _ hSI).trans ((Heap.get?_update_other _ _ hSI).trans (Heap.get?_push_of_some _ e))
    · have hb : S ≠ b := Nat.ne_of_gt (Nat.lt_trans (Heap.lt_size e) hS0)
      exact (Heap.get?_update_other _ _ hb).trans ((Heap.get?_update_other _ _ hb).trans (Heap.get?_push_of_some _ (hold' b o e)))
    · refine hR h'' tk'' p n a1 a2 ?_
      rw [a3, hdrop, List.flatten_cons, List.append_assoc]
theorem sum_lists (hh : A.handled = none) {l b : Addr} {its : List Value} {bs : List Value} {pss : List (List Value)} {Q : Value → Shared → Prop} (hl : s.heap.IsList l its.toArray) (hb : s.heap.IsList b bs.toArray)
    (hp : ∀ (i : Nat) (v : Value), its[i]? = some v → ∃ a ps, v = .ref a ∧ pss[i]? = some ps ∧ s.heap.IsList a ps.toArray) (hn : pss.length = its.length) (hne : 0 < its.length) (hz : bs.length + pss.flatten.length ≤ sizeLine)
    (h : ∀ h' tk p n, (∀ b o, s.heap.get? b = some o → h'.get? b = some o) → s.heap.objs.size ≤ p → h'.get? p = some { cls := .type "list", data := .seq (bs ++ pss.flatten).toArray n } → Q (.ref p) { s with heap := h', toks := tk }) :
    wpAny (model prog w) A (call (.builtin "sum") [.ref l, .ref b]) Q E s := by
  have hlt : l < s.heap.objs.size := by obtain ⟨_, e, _⟩ := hl; exact Heap.lt_size e
  have hbt : b < s.heap.objs.size := by obtain ⟨_, e, _⟩ := hb; exact Heap.lt_size e
  refine call_function_tree F.kind_sum F.plain_sum F.entry_sum (args_sum2 _ _) ?_
  unfold Builtin.«sum»
  simp only [List.length_cons, List.length_nil]
  rw [if_neg (by decide)]
  refine wpAny_bind (wpAny_of_eq (show Builtin.Builtins.bindParams "sum" ["start"] 0 ⟨[.ref b], []⟩ = pure [some (.ref b)] from rfl) ?_)
  refine wpAny_bind (wpAny_pyIter_list hl ?_)
  refine wpAny_bind (wpAny_pure ?_)
  simp only [List.forIn_cons, List.forIn_nil]
  have hbT : ({ s with heap := s.heap.push { cls := .type "list_iterator", data := .fields #[.ref l, .int 0 0] } } : Shared).TypeIs (.ref b) "list" := Heap.IsList.typeIs (s := { s with heap := s.heap.push { cls := .type "list_iterator", data := .fields #[.ref l, .int 0 0] } }) (hb.push _)
  refine wpAny_bind (wpAny_bind (wpAny_bind (wpAny_isInstance (T := "list") (b := false) hbT sub_list_str ?_)))
  simp only [Bool.false_eq_true, if_false]
  refine wpAny_pure (wpAny_bind (wpAny_bind (wpAny_isInstance (T := "list") (b := false) hbT sub_list_bytes ?_)))
  simp only [Bool.false_eq_true, if_false]
  refine wpAny_pure (wpAny_bind (wpAny_bind (wpAny_isInstance (T := "list") (b := false) hbT sub_list_bytearray ?_)))
  simp only [Bool.false_eq_true, if_false]
  refine wpAny_pure (wpAny_pure ?_)
  refine wpAny_bind (wpAny_newObj_type ?_)
  have hs1 : (s.heap.push { cls := .type "list_iterator", data := .fields #[.ref l, .int 0 0] }).objs.size = s.heap.objs.size + 1 := Heap.size_push ..
  refine wpAny_pure ⟨plainId_quiet F.plain_sum_loop _, ?_⟩
  refine loop (h0 := s.heap) (S := (s.heap.push { cls := .type "list_iterator", data := .fields #[.ref l, .int 0 0] }).objs.size) (its := its.toArray) hh hl (by omega) pss (fun i v e => hp i v (by simpa using e)) (by simpa using hn) its.length 0 _ b bs 0 (by simp) (Nat.zero_le _) ?_ (fun c o e => Heap.get?_push_of_some _ (Heap.get?_push_of_some _ e)) (Heap.get?_push_size _ rfl) ((hb.push _).push _) (Nat.ne_of_lt (Nat.lt_of_lt_of_le hbt (by omega))) (Nat.ne_of_lt hbt) (by simpa using hz) (fun e => absurd e (by omega)) fun h' tk p n a1 a2 a3 => ?_
  · exact ⟨_, Heap.get?_push_of_some _ (Heap.get?_push_size _ rfl), rfl, rfl⟩
  · exact h h' tk p n a1 (by omega) (by rw [a3]; simp)
end
end DLsum
namespace DL
open PySem L2 PySem.Spec PyProof.Rows
def rSumL (K : PySem.W.Frag) : List V → Hp → VK → Prop := fun vs H Q => ∃ (a b : Addr) (as : List Addr) (xss : List (List V)) (ys : List V), vs = [.ref a, .ref b] ∧ SqL K H a (as.map V.ref) ∧ Paired (fun p xs => SqL K H p xs) as xss ∧ SqL K H b ys ∧ 0 < as.length ∧
  ys.length + xss.flatten.length ≤ sizeLine ∧ ∀ p, H p = none → Q (.ref p) (upd H p (.lst (ys ++ xss.flatten)))
theorem vals_flat {R : List V → List Value → Prop} : True := trivial
theorem cr_sumL {X : Cx} (hc : X.calm = true) : CallR X (.builtin "sum") (rSumL X.K) := by
  intro pins s σ H vs us Q I r h
  obtain ⟨a, b, as, xss, ys, rfl, hs, hps, hb, hne, hz, q⟩ := h
  obtain ⟨its, rv, hl, hx1⟩ := I.list hs
  obtain ⟨bs, rvb, hlb, hx2⟩ := I.list hb
  clear hx1 hx2
  have e : us = [.ref a, .ref b] := by
    cases r with
    | cons r t =>
      cases r
      rw [Vals.ref1 t]
  subst e
  have hits : its = as.map Value.ref := by
    clear hs hl hne hps hz q
    induction as generalizing its with
    | nil => cases rv; rfl
    | cons x as ih =>
      cases rv with
      | cons r t => cases r; rw [ih _ t]; rfl
  subst hits
  have hpp : ∃ pss : List (List Value), Paired (fun p ps => s.heap.IsList p ps.toArray) as pss ∧ Vals xss.flatten pss.flatten ∧ pss.length = as.length := by
    clear hs hl hne hz q rv
    induction hps with
    | nil => exact ⟨[], .nil, .nil, rfl⟩
    | cons h t ih =>
      obtain ⟨pss, p1, p2, p3⟩ := ih
      obtain ⟨ps, v, hq, _⟩ := I.list h
      exact ⟨ps :: pss, .cons hq.isList p1, by rw [List.flatten_cons, List.flatten_cons]; exact Vals.append v p2, by simp [p3]⟩
  obtain ⟨pss, p1, p2, p3⟩ := hpp
  have hlv : Vals (ys ++ xss.flatten) (bs ++ pss.flatten) := Vals.append rvb p2
  refine DLsum.sum_lists (I.ok.hd hc) hl.isList hlb.isList (pss := pss) (fun i v hv => ?_) (by rw [p3, List.length_map]) (by rw [List.length_map]; exact hne) (by rw [← List.length_append, ← Paired.length hlv, List.length_append]; exact hz) fun h' tk p n a1 a2 a3 => ?_
  · clear hl hlb hne hz q rv p2 hlv hs hps
    induction p1 generalizing i with
    | nil => simp at hv
    | cons h t ih =>
      cases i with
      | zero => simp at hv; exact ⟨_, _, hv.symm, rfl, h⟩
      | succ i =>
        obtain ⟨a', ps, q1, q2, q3⟩ := ih (by simpa using p3) i (by simpa using hv)
        exact ⟨a', ps, q1, by simpa using q2, q3⟩
  · exact ⟨.ref _, upd H p (.lst (ys ++ xss.flatten)), I.laid (t' := tk) a1 a2 ⟨by rw [List.length_append]; exact hz, bs ++ pss.flatten, n, hlv, a3⟩, rfl, q p (I.hok.fresh a2)⟩
theorem x_sumL {X : Cx} {K : PySem.W.Frag} (h : X.K = K) (hc : X.calm = true) : CallR X (.builtin "sum") (rSumL K) := h ▸ cr_sumL hc
def wSumL : List U → List Ob → (U → List Ob → Prop) → Prop := fun us M Q => ∃ (u v : U) (dss : List (List PyData)) (ys : List PyData), us = [u, v] ∧ view M u = some (.list (dss.map PyData.list)) ∧ view M v = some (.list ys) ∧ 0 < dss.length ∧ ys.length + dss.flatten.length ≤ sizeLine ∧ Q (.d (.list (ys ++ dss.flatten))) M
theorem lists_rep {K : PySem.W.Frag} {F H : Hp} (e : Same F H) : ∀ {dss : List (List PyData)} {vs : List V}, RpL F (dss.map PyData.list) vs → ∃ (as : List Addr) (xss : List (List V)), vs = as.map V.ref ∧ Paired (fun p xs => SqL K H p xs) as xss ∧ RpL F dss.flatten xss.flatten ∧ as.length = dss.length
  | [], _, .nil => ⟨[], [], rfl, .nil, .nil, rfl⟩
  | ds :: dss, _, .cons h t => by
    obtain ⟨as, xss, rfl, h1, h2, h3⟩ := lists_rep (K := K) e t
    cases h with
    | lst ha r => exact ⟨_ :: as, _ :: xss, rfl, .cons (SqL.of (e _ _ ha)) h1, by rw [List.flatten_cons, List.flatten_cons]; exact RpL.append r h2, by simp [h3]⟩
theorem lc_sumL {K : PySem.W.Frag} : LC (rSumL K) wSumL := fun w M H x vx Qu Q h rx hq o => by
  obtain ⟨u, v, dss, ys, rfl, e1, e2, hne, hz, q⟩ := hq
  obtain ⟨a, b, rfl, ra, rb⟩ : ∃ a b, vx = [a, b] ∧ RU w u a ∧ RU w v b := by
    cases rx with
    | cons r1 t =>
      cases t with
      | cons r2 t => cases t; exact ⟨_, _, rfl, r1, r2⟩
  obtain ⟨p, vs, rfl, hp, r1⟩ := view_ok h ra e1
  obtain ⟨p2, vs2, rfl, hp2, r2⟩ := view_ok h rb e2
  obtain ⟨as, xss, rfl, h1, h2, h3⟩ := lists_rep (K := K) h.sub r1
  have hr := RpL.append r2 h2
  refine ⟨p, p2, as, xss, vs2, rfl, SqL.of hp, h1, SqL.of hp2, by rw [h3]; exact hne, ?_, fun l hl => ?_⟩
  · rw [← List.length_append, ← RpL.length hr, List.length_append]; exact hz
  · exact o _ _ _ _ _ (Step.put h hl) (h.put hl) (RU.D (.lst Wd.putF (RpL.mono (same_put (h.newF hl)) hr))) q
end DL

/-! ### texts: split, partition, rpartition, startswith, endswith, int(t, 10); enumerate(list, start=k); d.get(k, x) of a written dict; a text grown in a list -/
namespace DL
open PySem L2 PySem.Spec PyProof.Rows
section
/-- x.rpartition(sep) -/
theorem mt_rpartition {X : Cx} : MtR X "str.rpartition" (fun x xs H Q => ∃ a b, x = .str a ∧ xs = [.str b] ∧ (b.length == 0) = false ∧ a.length ≤ sizeLine ∧
    ∀ p, H p = none → Q (.ref p) (upd H p (.tup [.str (Txt.rpartition a b).1, .str (Txt.rpartition a b).2.1, .str (Txt.rpartition a b).2.2]))) := by
  intro pins s σ H x xs v us Q I rx rs h
  obtain ⟨a, b, rfl, rfl, hb, hz, h⟩ := h
  obtain ⟨t, rfl⟩ := rx
  cases rs with
  | cons r1 rs =>
    cases rs
    obtain ⟨u, rfl⟩ := r1
    refine call_meets F.slot_str_rpartition (typeIs_str _ _ _) F.entry_str_rpartition (F.args_str_rpartition_2 _ _) (meets_str_rpartition a b t u hb hz) ?_
    unfold Txt.rpartition at h
    revert h
    cases Builtin.Str.lastOccurrence a b 0 a.length with
    | none => intro h; exact laid_parts I h
    | some i => intro h; exact laid_parts I h
def rSplit : V → List V → Hp → VK → Prop := fun x xs H Q => ∃ a b, x = .str a ∧ xs = [.str b] ∧ (b.length == 0) = false ∧ a.length + 2 ≤ sizeLine ∧ rNewStrs (Txt.split a b) H Q
theorem mt_splitD {X : Cx} : MtR X "str.split" rSplit := mt_split
def wSplit : WM := fun x ys M Q => ∃ a b, x = .d (.str a) ∧ ys = [.d (.str b)] ∧ (b.length == 0) = false ∧ a.length + 2 ≤ sizeLine ∧ Q (.d (.list ((Txt.split a b).map PyData.str))) M
theorem lm_split : LM rSplit wSplit := fun w M H x vx ys vs Qu Q h rx rs hq o => by
  obtain ⟨a, b, rfl, rfl, h1, h2, q⟩ := hq
  obtain ⟨v, rfl, r⟩ := rus1 rs
  cases (show Rp w.F _ vx from rx)
  cases (show Rp w.F _ v from r)
  refine ⟨a, b, rfl, rfl, h1, h2, fun p hp => ?_⟩
  exact o _ _ _ _ _ (Step.put h hp) (h.put hp) (RU.D (.lst Wd.putF (RpL.strs _))) q
def rParts (f : Str → Str → Str × Str × Str) : V → List V → Hp → VK → Prop := fun x xs H Q => ∃ a b, x = .str a ∧ xs = [.str b] ∧ (b.length == 0) = false ∧ a.length ≤ sizeLine ∧ ∀ p, H p = none → Q (.ref p) (upd H p (.tup [.str (f a b).1, .str (f a b).2.1, .str (f a b).2.2]))
theorem mt_partD {X : Cx} : MtR X "str.partition" (rParts Txt.partition) := mt_partition
theorem mt_rpartD {X : Cx} : MtR X "str.rpartition" (rParts Txt.rpartition) := mt_rpartition
def wParts (f : Str → Str → Str × Str × Str) : WM := fun x ys M Q => ∃ a b, x = .d (.str a) ∧ ys = [.d (.str b)] ∧ (b.length == 0) = false ∧ a.length ≤ sizeLine ∧ Q (.d (.tuple [.str (f a b).1, .str (f a b).2.1, .str (f a b).2.2])) M
theorem lm_parts {f : Str → Str → Str × Str × Str} : LM (rParts f) (wParts f) := fun w M H x vx ys vs Qu Q h rx rs hq o => by
  obtain ⟨a, b, rfl, rfl, h1, h2, q⟩ := hq
  obtain ⟨v, rfl, r⟩ := rus1 rs
  cases (show Rp w.F _ vx from rx)
  cases (show Rp w.F _ v from r)
  refine ⟨a, b, rfl, rfl, h1, h2, fun p hp => ?_⟩
  exact o _ _ _ _ _ (Step.put h hp) (h.put hp) (RU.D (.tup Wd.putF (.cons (.str _) (.cons (.str _) (.cons (.str _) .nil))))) q
def rSS (f : Str → Str → Bool) : V → List V → Hp → VK → Prop := fun x xs H Q => ∃ a b, x = .str a ∧ xs = [.str b] ∧ Q (.bl (f a b)) H
theorem mt_startsD {X : Cx} : MtR X "str.startswith" (rSS Txt.startswith) := mt_startswith
theorem mt_endsD {X : Cx} : MtR X "str.endswith" (rSS Txt.endswith) := mt_endswith
def wSS (f : Str → Str → Bool) : WM := fun x ys M Q => ∃ a b, x = .d (.str a) ∧ ys = [.d (.str b)] ∧ Q (.d (.bool (f a b))) M
theorem lm_ss {f : Str → Str → Bool} : LM (rSS f) (wSS f) := fun w M H x vx ys vs Qu Q h rx rs hq o => by
  obtain ⟨a, b, rfl, rfl, q⟩ := hq
  obtain ⟨v, rfl, r⟩ := rus1 rs
  cases (show Rp w.F _ vx from rx)
  cases (show Rp w.F _ v from r)
  exact ⟨a, b, rfl, rfl, o.here h (RU.D (.bl _)) q⟩
end

/-! ### int(t, 10) -/
namespace Dc
open PySem.NumText PySem.Calls L2.Hx
set_option maxHeartbeats 4000000 in
theorem gives_dec {x : PySem.Str} {u t : Tok} {n : Int} (hl : x.length ≤ 640) (hn : PySem.intText? x = some n) :
    Gives (Builtin.«int.__new__» ⟨[.type "int", .str x u, .int 10 t], []⟩) (.int n) :=
  .of_wp fun M A E s Q hQ => by
    obtain ⟨hp, g, d, tk, os⟩ := s
    have f1 := F.conv_sub_int
    have f2 := F.madeHere_int
    have f6 : typeOf (.str x u) = pure (.type "str") := rfl
    have hs : (numSeenOf x).length ≤ 640 := Nat.le_trans (seen_length x) hl
    have hr : (int_private% "readNumeral") 0 10 (numSeenOf x) = (int_private% "Numeral.value") n ∧ ((numSeenOf x).length == (numTextOf x).length) = true := by
      rcases read0 x hs with ⟨m, h1, h2, h3⟩ | ⟨h1, _⟩
      · rw [hn] at h1
        injection h1 with h1
        subst h1
        exact ⟨h3, h2⟩
      · rw [hn] at h1
        cases h1
    have hk := L2.Hx.Hid.mk (And.intro hs hr)
    clear hs hr hl hn
    repeat (any_goals (first
      | assumption
      | ((with_reducible show wpAny _ _ ((int_private% "intFromText") _ _ _) _ _ _); refine wp_textB hk.out.1 hk.out.2.1 hk.out.2.2 ?_)
      | wp_step))
    all_goals first | exact ⟨_, rfl, hQ⟩ | skip
theorem call_dec {prog : Program} {w : World} {A : Around} {E : Value → Shared → Prop} {s : Shared} {Q : Value → Shared → Prop} {x : PySem.Str} {u t : Tok} {n : Int} (hl : x.length ≤ 640) (hn : PySem.intText? x = some n)
    (hQ : Q (.int n s.toks) { s with toks := s.toks + 1 }) : wpAny (model prog w) A (call (.type "int") [.str x u, .int 10 t]) Q E s :=
  callType_new F.called_int F.newNe_int (typeCall_int_2 _ _) (newCall_int_2 _ _) (fun obj => F.initArgs_range_2 obj _ _) F.entry_int_new (gives_dec hl hn).meets (show (Made.int n).post _ s from ⟨rfl, hQ⟩)
end Dc
/-- int(t, 10) of figures -/
def rInt10 : List V → Hp → VK → Prop := fun xs H Q => ∃ (x : Str) (n : Int), xs = [.str x, .int 10] ∧ PySem.intText? x = some n ∧ x.length ≤ 640 ∧ Q (.int n) H
theorem call_int10 {X : Cx} : CallR X (.type "int") rInt10 := by
  intro pins s σ H xs us Q I r h
  obtain ⟨x, n, rfl, hn, hl, q⟩ := h
  obtain ⟨u, w', rfl, r1, r2⟩ := vals2 r
  obtain ⟨t1, rfl⟩ := r1
  obtain ⟨t2, rfl⟩ := r2
  exact Dc.call_dec (x := x) hl hn ⟨.int _, H, I.tok _, ⟨_, rfl⟩, q⟩
def wInt10 : List U → List Ob → (U → List Ob → Prop) → Prop := fun us M Q => ∃ (x : Str) (n : Int), us = [.d (.str x), .d (.int 10)] ∧ PySem.intText? x = some n ∧ x.length ≤ 640 ∧ Q (.d (.int n)) M
theorem lc_int10 : LC rInt10 wInt10 := fun w M H x vx Qu Q h rx hq o => by
  obtain ⟨x, n, rfl, h1, h2, q⟩ := hq
  obtain ⟨v, v2, rfl, r, r2⟩ := rus2 rx
  cases (show Rp w.F _ v from r)
  cases (show Rp w.F _ v2 from r2)
  exact ⟨x, n, rfl, h1, h2, o.here h (RU.D (.int _)) q⟩

/-! ### enumerate(list, start=k) -/
section
def IteS (K : PySem.W.Frag) (a : Addr) (k0 : Int) : It :=
  ⟨fun i H => ∃ (xs : List V) (x : V), SqL K H a xs ∧ xs[i]? = some x, fun i H v H' => ∃ T x, v = .ref T ∧ H T = none ∧ H' = upd H T (.tup [.int (k0 + (i : Nat)), x]) ∧ ∀ xs, SqL K H a xs → xs[i]? = some x, fun i H => ∃ xs : List V, SqL K H a xs ∧ xs.length ≤ i⟩
theorem turn_enumS {P : Program} {w : World} {K : PySem.W.Frag} {elts : List Expr} {kk : Nat} {tpos : Pos} (k0 : Int) (a e it : Addr) :
    Turn P w K (.Tuple elts kk tpos) (IteS K a k0) [e, it] e (fun i h => (∃ old, IsEnum h e it (k0 + (i : Nat)) old) ∧ h.IsListIter it a i ∧ e ≠ it ∧ a ≠ it ∧ a ≠ e) where
  mem := by simp
  obj := fun i h st b hb => by
    obtain ⟨⟨old, he⟩, ⟨o, ho, hc, hd⟩, _⟩ := st
    have e' : b = e ∨ b = it := by simpa using hb
    rcases e' with z | z
    · rw [z]; exact ⟨_, he, fun v q => nomatch q⟩
    · rw [z]; exact ⟨o, ho, fun v q => by rw [hd] at q; cases q⟩
  keep := fun i h h' st k => let ⟨⟨old, he⟩, hi, hne, hna⟩ := st; ⟨⟨old, k e (by simp) _ he⟩, hi.at fun o q => k it (by simp) o q, hne, hna⟩
  item := by
    intro X hP hw hK hc i pins s σ H E I hf st hg
    subst hP hw hK
    obtain ⟨⟨old, he⟩, hit, hne, hna, hae⟩ := st
    obtain ⟨xs, x, hq, hx⟩ := hg
    obtain ⟨its, rv, p, hz⟩ := I.list hq
    obtain ⟨u, hu, ru⟩ := rv.get hx
    have hel : e < s.heap.objs.size := Heap.lt_size he
    have hil : it < s.heap.objs.size := by obtain ⟨_, q, _⟩ := hit; exact Heap.lt_size q
    have hlt : i < its.toArray.size := by
      rcases Nat.lt_or_ge i its.length with h | h
      · simpa using h
      · rw [List.getElem?_eq_none h] at hu; cases hu
    refine wpAny_pyNext_enum_itemC (Draws.list (A := X.A.in1) (I.ok.hd hc) it a hna its.toArray) he ⟨hit, p.isList⟩ hlt hne (by simp [hne, Ne.symm hae]) fun x1 h' tk hx1 ho hit' hT hsz hk => ?_
    have ex : x1 = u := by
      have h1 : its[i]? = some x1 := by simpa using hx1
      rw [hu] at h1
      exact (Option.some.inj h1).symm
    subst ex
    refine ⟨_, rfl, wpAny_letOwnedTupleGo_enum (s := { s with heap := h', toks := tk + 1 }) ho fun h'' he' sb => ?_⟩
    have hT2 : h''.get? s.heap.objs.size = some { cls := .type "tuple", data := .seq #[.int (k0 + (i : Nat)) tk, x1] } := (sb.2 _ (Nat.ne_of_gt hel)).trans hT
    have new : ObjOk X.prog X.w (upd H s.heap.objs.size (.tup [.int (k0 + (i : Nat)), x])) h'' s.heap.objs.size (.tup [.int (k0 + (i : Nat)), x]) :=
      ⟨by show 2 ≤ sizeLine; decide, [.int (k0 + (i : Nat)) tk, x1], .cons ⟨_, rfl⟩ (.cons ru .nil), ⟨_, hT2, rfl, _, rfl⟩⟩
    have I1 : Inv X pins σ (upd H s.heap.objs.size (.tup [.int (k0 + (i : Nat)), x])) { s with heap := h'', toks := tk + 1 } :=
      I.turnedNew (ch := [e, it]) (fun b ob hb q => (sb.2 b (fun z => hb (by simp [z]))).trans (hk b ob (fun z => hb (by simp [z])) (fun z => hb (by simp [z])) q)) hf (Nat.le_refl _) new
    refine ⟨.ref s.heap.objs.size, _, I1, rfl, ⟨_, x, rfl, I.hok.fresh (Nat.le_refl _), rfl, fun ys hy => by rw [I.list_inj hy hq]; exact hx⟩, ⟨⟨x1, ?_⟩, hit'.1.at fun o q => (sb.2 it (Ne.symm hne)).trans q, hne, hna, hae⟩, fun b hb => ?_⟩
    · have e1 : k0 + ((i + 1 : Nat) : Int) = k0 + (i : Nat) + 1 := by omega
      rw [e1]; exact he'
    · have hb' : b < s.heap.objs.size := by
        have e' : b = e ∨ b = it := by simpa using hb
        rcases e' with z | z
        · rw [z]; exact hel
        · rw [z]; exact hil
      rw [upd_ne (Nat.ne_of_lt hb')]
      exact (hf b hb).1
  done := by
    intro X hP hw hK hc i pins s σ H E I hf st hg
    subst hP hw hK
    obtain ⟨⟨old, he⟩, hit, hne, hna, hae⟩ := st
    obtain ⟨xs, hq, hx⟩ := hg
    obtain ⟨its, rv, p, hz⟩ := I.list hq
    obtain ⟨f0, f1, f2, f3, f4, f5⟩ := hf it (by simp)
    have hl := rv.length
    obtain ⟨o1, ho1, hc1, hd1⟩ := id hit
    have hz : its.toArray[i]? = none := by simp; omega
    have hT : s.TypeIs (.ref e) "enumerate" := ⟨_, he, rfl⟩
    unfold pyNext
    refine wpAny_bind (wpAny_attempt (wpAny_callSpecial?_slot (name := Str.ofString "__next__") hT F.slot_enumerate_next
      (wpAny_call_entry F.slot_enumerate_next hT F.entry_enumerate_next ?_ (F.args_enumerate_next_1 _))))
    show wpAny _ _ (field (.ref e) 2 >>= _) _ _ _
    refine wpAny_bind (wpAny_field he rfl (x := .ref it) rfl ?_)
    refine wpAny_bind (wpAny_nextOf_list_end (I.ok.hd hc) hit p.isList hz fun h' x he' hx' => ?_)
    obtain ⟨o, ho, hc⟩ := hx'
    refine wpAny_bind (wpAny_isInstance (T := "StopIteration") (b := true) ⟨o, ho, hc⟩ isSubtype_stop ?_)
    exact wpAny_pure ⟨rfl, I.turned (t' := s.toks) (fun b o hb q => he' b o hb q) f0 f1 f3 f4 f5⟩
  self := fun A i s Q E st h => let ⟨⟨_, he⟩, _⟩ := st; wpAny_pyIter_enum he h
theorem callWith_typeKw {M : Model} {A : Around} {E : Value → Shared → Prop} {s : Shared} {env : PySem.Env} {pos : Pos} {T : String} {e : Expr} {rest : List Expr} {kws : List Keyword} {Q : Value → Shared → Prop}
    (h : wpAny M A (spliced (backTo pos (starEach (e :: rest) env))) (fun vs s₁ => wpAny M A (evalAll ((backToKw pos (keywordEach kws env)).map (·.2)))
      (fun kvs s₂ => wpAny M A (call (.type T) vs (((backToKw pos (keywordEach kws env)).filterMap (·.1)).zip kvs)) Q E s₂) E s₁) E s)
    (he : backTo pos (starEach (e :: rest) env) = (false, eval e env) :: backTo pos (starEach rest env))
    (hplain : (backTo pos (starEach (e :: rest) env)).any (·.1) = false)
    (hall : (backToKw pos (keywordEach kws env)).all (·.1.isSome) = true)
    (hkw : (backToKw pos (keywordEach kws env)).any (·.1.isNone) = false) :
    wpAny M A (callWith pos (.type T) [] (backTo pos (starEach (e :: rest) env)) (backToKw pos (keywordEach kws env))) Q E s := by
  unfold callWith
  refine wpAny_bind (wpAny_holding (wpAny_mono (Q := fun a s₁ => wpAny M A (call (.type T) ([] ++ a.pos) a.kw) Q E s₁) ?_ (fun a s₁ h₁ => wpAny_bind (wpAny_standAt ?_)) fun _ _ x => x))
  · rw [he] at h ⊢
    exact evalArgs_kwB hall h
  · simp only [hplain, hkw, Bool.or_false]
    refine wpAny_bind (wpAny_pure ?_)
    exact wpAny_bind (wpAny_mono h₁ (fun r s₂ hr => wpAny_bind (wpAny_holding (wpAny_point (wpAny_pure hr)))) fun _ _ x => x)
def iEnumS (K : PySem.W.Frag) (ta tk : TA) : TI := fun σ H R => ta σ H fun vs H1 => tk σ H1 fun zs H2 => ∃ a xs k0, vs = [.ref a] ∧ zs = [.int k0] ∧ (-(2 ^ 63) ≤ k0 ∧ k0 < 2 ^ 63) ∧ SqL K H2 a xs ∧ R (IteS K a k0) H2
theorem pi_enumS {X : Cx} {e : Expr} {kws : List Keyword} {ta tk : TA} {p pos tpos : Pos} {elts : List Expr} {kk : Nat} (hg : Gl X "enumerate") (hm : X.mg "enumerate" = none) (ha : PA X [e] ta) (hk : PK X kws tk)
    (he : backTo pos (starEach [e] X.env) = (false, eval e X.env) :: backTo pos (starEach [] X.env) := by rfl) (hpl : (backTo pos (starEach [e] X.env)).any (·.1) = false := by rfl)
    (hall : (backToKw pos (keywordEach kws X.env)).all (·.1.isSome) = true := by rfl) (hnone : (backToKw pos (keywordEach kws X.env)).any (·.1.isNone) = false := by rfl) (hks : (backToKw pos (keywordEach kws X.env)).filterMap (·.1) = [Str.ofString "start"] := by rfl) :
    PI X (.Tuple elts kk tpos) (.Call (.Name "enumerate" p) [e] kws pos) (iEnumS X.K ta tk) := by
  refine ⟨fun pins s σ H R I h => ?_⟩
  refine wpAny_Call_Name_kw (ld_blt I hg hm boot_enumerate ?_)
  refine callWith_typeKw (thn (ha.run pos pins s σ H _ I h) fun us s0 ⟨vs, H0, I0, r0, q0⟩ => thn (hk.run pos pins s0 σ H0 _ I0 q0) fun ws s1 ⟨zs, H1, I1, r1, q1⟩ => ?_) he hpl hall hnone
  rw [hks]
  obtain ⟨a, xs, k0, ex, ez, ⟨hk0, hk1⟩, hq, q⟩ := q1
  subst ex ez
  cases r0 with
  | cons r rr =>
    cases rr
    cases r
    cases r1 with
    | cons r2 rr2 =>
      cases rr2
      obtain ⟨t2, rfl⟩ := r2
      obtain ⟨its, rv, p', hz⟩ := I1.list hq
      refine enum_begins_start (begins_list a its.toArray) p'.isList hk0 hk1 fun h' he hit hsz hk => wpAny_pyIter_enum he ?_
      have I2 : Inv X pins σ H1 { s1 with heap := h' } := I1.kept (t' := s1.toks) hk
      have hal : a < s1.heap.objs.size := by obtain ⟨o, ho, _⟩ := p'.isList; exact Heap.lt_size ho
      have he0 : IsEnum h' (s1.heap.objs.size + 1) s1.heap.objs.size (k0 + ((0 : Nat) : Int)) .none := by
        have e0 : k0 + ((0 : Nat) : Int) = k0 := by omega
        rw [e0]; exact he
      refine ⟨s1.heap.objs.size + 1, [s1.heap.objs.size + 1, s1.heap.objs.size], _, _, H1, rfl, I2, turn_enumS k0 a (s1.heap.objs.size + 1) s1.heap.objs.size, ⟨⟨.none, he0⟩, ⟨_, hit, rfl, rfl⟩, Nat.succ_ne_self _, Nat.ne_of_lt hal, Nat.ne_of_lt (Nat.lt_succ_of_lt hal)⟩, fun b hb => ?_, q⟩
      have e' : b = s1.heap.objs.size + 1 ∨ b = s1.heap.objs.size := by simpa using hb
      have hle : s1.heap.objs.size ≤ b := by
        rcases e' with z | z
        · rw [z]; exact Nat.le_add_right _ _
        · rw [z]; exact Nat.le_refl _
      exact I1.fpOk hle (I1.hok.fresh hle)
def countedS (k0 : Int) (ds : List PyData) : List U := ds.zipIdx.map fun p => U.d (.tuple [.int (k0 + (p.2 : Nat)), p.1])
theorem countedS_get {k0 : Int} {ds : List PyData} {i : Nat} {u : U} (h : (countedS k0 ds)[i]? = some u) : ∃ d, ds[i]? = some d ∧ u = .d (.tuple [.int (k0 + (i : Nat)), d]) := by
  unfold countedS at h
  rw [List.getElem?_map, List.getElem?_zipIdx] at h
  cases q : ds[i]? with
  | none => rw [q] at h; cases h
  | some d => rw [q] at h; exact ⟨d, rfl, by simpa using (Option.some.inj h).symm⟩
theorem j_enumS {K : PySem.W.Frag} {w : Wd} {a : Addr} {vs : List V} {ds : List PyData} {k0 : Int} (ha : w.F a = some (.lst vs)) (r : RpL w.F ds vs) : JOk w (IteS K a k0) (countedS k0 ds) fun _ => True where
  stop := fun {w' M H} i g h _ hi => ⟨vs, SqL.of (h.sub _ _ (g.F _ _ ha)), by rw [← r.length]; simpa [countedS] using hi⟩
  go := fun {w' M H} i g h _ hi => by
    have hi' : i < vs.length := by rw [← r.length]; simpa [countedS] using hi
    exact ⟨vs, vs[i], SqL.of (h.sub _ _ (g.F _ _ ha)), List.getElem?_eq_getElem hi'⟩
  yld := fun {w' M H H' v u} i g h _ hu y => by
    obtain ⟨T, x, rfl, hT, rfl, y1⟩ := y
    obtain ⟨d, h1, rfl⟩ := countedS_get hu
    obtain ⟨v1, h3, h4⟩ := r.get h1
    have q1 := y1 vs (SqL.of (h.sub _ _ (g.F _ _ ha)))
    rw [h3] at q1
    have q3 := Option.some.inj q1
    subst q3
    have m := g.F.trans (same_put (o := .tup [.int (k0 + (i : Nat)), v1]) (h.newF hT))
    exact ⟨w'.put T _, Step.put h hT, h.put hT, RU.D (.tup Wd.putF (.cons (.int _) (.cons (h4.mono m) .nil)))⟩
def wIEnumS (wr wk : WA) : WI := fun ρ M Q => wr ρ M fun us M1 => wk ρ M1 fun zs M2 => ∃ ds k0, us = [.d (.list ds)] ∧ zs = [.d (.int k0)] ∧ (-(2 ^ 63) ≤ k0 ∧ k0 < 2 ^ 63) ∧ Q (countedS k0 ds) (fun _ => True) M2
theorem li_enumS {K : PySem.W.Frag} {tr tk : TA} {wr wk : WA} (hr : LA tr wr) (hk : LA tk wk) : LI (iEnumS K tr tk) (wIEnumS wr wk) := fun _ _ _ _ _ _ _ h e hq k =>
  hr h e hq fun _ _ _ _ _ s1 h1 r1 q1 => hk h1 (e.grow s1.grow) q1 fun _ _ _ _ _ s2 h2 r2 q2 => by
    obtain ⟨ds, k0, rfl, rfl, hk, q⟩ := q2
    obtain ⟨v1, rfl, x1⟩ := rus1 r1
    obtain ⟨v2, rfl, x2⟩ := rus1 r2
    have x3 := x1.grow s2.grow
    cases (show Rp _ (.int k0) _ from x2)
    cases (show Rp _ (.list ds) _ from x3) with
    | lst ha ra => exact ⟨_, _, k0, rfl, rfl, hk, SqL.of (h2.sub _ _ ha), k _ _ _ _ _ _ (s1.trans h1 s2) h2 (j_enumS ha ra) q⟩
end
/-! ### a text grown in a list; a statement that is never reached -/
def ipS : TIp := fun x y H Q => ∃ i j, x = .str i ∧ y = .str j ∧ i.length + j.length ≤ sizeLine ∧ Q (.str (i ++ j)) H
theorem ip_addStr {X : Cx} : PIp X .Add ipS := fun pins s σ H x y u v Q I rx ry h => iop_add_str pins s σ H x y u v Q I rx ry h
def wIpS : R2' := fun x y M Q => ∃ i j, x = .d (.str i) ∧ y = .d (.str j) ∧ i.length + j.length ≤ sizeLine ∧ Q (.d (.str (i ++ j))) M
theorem lr_ipS : LR ipS wIpS := fun w M H x y vx vy Qu Q h rx ry hq o => by
  obtain ⟨i, j, rfl, rfl, hl, q⟩ := hq
  cases (show Rp w.F _ vx from rx)
  cases (show Rp w.F _ vy from ry)
  exact ⟨i, j, rfl, rfl, hl, o.here h (RU.D (.str _)) q⟩
theorem ps_never {X : Cx} {st : Stmt} : PS X st (fun _ _ _ => False) := ⟨fun _ _ _ _ _ _ h => h.elim⟩
def wNever : WS := fun _ _ _ => False
theorem ls_never : LS (fun _ _ _ => False) wNever := fun _ _ _ _ _ _ _ _ _ hq _ => hq.elim
/-! ### d.get(k, x) of a written dict -/
section
variable {X : Cx} {o e f : Expr} {apos cpos : Pos} {td ty tx : TE}
def tKGet (K : PySem.W.Frag) (w : World) (td ty tx : TE) : TE := fun σ H Q => td σ H fun x H1 => ∃ a es n, x = .ref a ∧ KDict K w a es n ∧ ty σ H1 fun y H2 => tx σ H2 fun z H3 => ∃ (k : Str) (r : Option Value) (v : V), y = .str k ∧ PySem.W.nsIn K a k = some r ∧ (∀ u, r = some u → RelV v u) ∧ (r = none → v = z) ∧ Q v H3
theorem pe_kget2 {K : PySem.W.Frag} {w : World} (hK : X.K = K) (hw : X.w = w) (ho : PE X o td) (he : PE X e ty) (hf : PE X f tx) (m : M2 X o "get" apos e f cpos) : PE X (.Call (.Attribute o "get" apos) [e, f] [] cpos) (tKGet K w td ty tx) := by
  subst hK hw
  refine ⟨fun pins s σ H Q I h => ?_⟩
  refine wpAny_Call_method m.base m.few m.line PySem.F.plainAttrs_dict PySem.F.slot_dict_get PySem.F.type_dict_get (thn (ho.run pins s σ H _ I h) fun u s1 ⟨x, H1, I1, rx, a, es, n, ex, D, q1⟩ => ?_)
  subst ex
  obtain rfl : u = Value.ref a := rx
  have hm1 := PySem.W.mapOf_K (prog := X.prog) (w := X.w) I1.kIn D.at_ D.lit
  refine ⟨hm1.typeIs, hm1.noDict, ?_⟩
  rw [m.trees]
  refine Calls.callWith_builtin rfl (Calls.evalArgs_plain (Calls.spliced_cons (thn (he.run pins s1 σ H1 _ I1 q1) fun iv s2 ⟨y, H2, I2, ry, q2⟩ =>
    Calls.spliced_cons (thn (hf.run pins s2 σ H2 _ I2 q2) fun fv s3 ⟨z, H3, I3, rz, k, r, v, ey, en, ev, ed, q3⟩ => Calls.spliced_nil ?_))))
  subst ey
  obtain ⟨t, rfl⟩ := ry
  have hm3 := PySem.W.mapOf_K (prog := X.prog) (w := X.w) I3.kIn D.at_ D.lit
  refine call_meetsIn PySem.F.slot_dict_get hm3.typeIs PySem.F.entry_dict_get (PySem.F.args_dict_get_3 _ _ _) (meets_dict_get_default (strKind X.prog X.w) a (strKind_is X.prog X.w k t) D.low fv) ⟨_, hm3, ?_⟩
  rw [PySem.W.find_K D.at_ en]
  refine ⟨v, H3, I3.tok _, ?_, q3⟩
  cases r with
  | none => rw [ed rfl]; exact rz
  | some u => exact ev u rfl
def wKGet (a : Addr) {α : Type} (cd : α → PyData) (kvs : List (Str × α)) (we wk wx : WE) : WE := fun ρ M Q => we ρ M fun x M1 => x = .v (.ref a) ∧ wk ρ M1 fun y M2 => wx ρ M2 fun z M3 => ∃ k, y = .d (.str k) ∧ match kvs.lookup k with | some i => Q (.d (cd i)) M3 | none => Q z M3
theorem le_kget2 {α : Type} {cv : α → V} {cd : α → PyData} {K : PySem.W.Frag} {w : World} {a : Addr} {kvs : List (Str × α)} (D : WrDg cv K w a kvs) (hr : ∀ F i, Rp F (cd i) (cv i)) {we wk wx : WE} (h1 : LE td we) (h2 : LE ty wk) (h3 : LE tx wx) : LE (tKGet K w td ty tx) (wKGet a cd kvs we wk wx) := fun _ _ _ _ _ _ _ h e hq o =>
  h1 h e hq fun x M1 v1 w1 H1 s1 h1' r1 q1 => by
    obtain ⟨rfl, q1⟩ := q1
    have ex : v1 = .ref a := r1
    subst ex
    obtain ⟨es, n, KD, qq⟩ := D
    refine ⟨a, es, n, rfl, KD, h2 h1' (e.grow s1.grow) q1 fun y M2 v2 w2 H2 s2 h2' r2 q2 => h3 h2' ((e.grow s1.grow).grow s2.grow) q2 fun z M3 v3 w3 H3 s3 h3' r3 q3 => ?_⟩
    obtain ⟨k, rfl, q⟩ := q3
    cases (show Rp _ (.str k) _ from r2)
    obtain ⟨r, e1, e2, e3⟩ := wrD_at (cv := cv) ⟨es, n, KD, qq⟩ k
    have o3 := ((o.trans s1 h1').trans s2 h2').trans s3 h3'
    cases hl : kvs.lookup k with
    | none =>
      rw [hl] at q e2
      have er : r = none := by cases r with | none => rfl | some _ => cases e2
      subst er
      exact ⟨k, none, v3, rfl, e1, (fun u hu => by cases hu), fun _ => rfl, o3.here h3' r3 q⟩
    | some i =>
      rw [hl] at q
      obtain ⟨u, rfl, ru⟩ := e3 i hl
      exact ⟨k, some u, cv i, rfl, e1, (fun u' hu => by cases hu; exact ru), (fun hn => by cases hn), o3.here h3' (RU.D (hr _ i)) q⟩
end
end DL

/-! ### deep views: tuples and lists that hold cells, read as data -/
namespace DL
open PySem L2
noncomputable def frozT (w : Wd) (H : Hp) : Hp := fun a => match w.F a with
  | some o => some o
  | none => match Classical.propDecidable (a ∈ w.th) with
    | .isTrue _ => (match H a with
      | some (.lst vs) => some (.lst vs)
      | some (.tup vs) => some (.tup vs)
      | _ => none)
    | .isFalse _ => none
theorem frozT_F {w : Wd} {H : Hp} : Same w.F (frozT w H) := fun a o e => by unfold frozT; rw [e]
theorem frozT_sub {w : Wd} {M : List Ob} {H : Hp} (h : Hold w M H) : Same (frozT w H) H := fun a o e => by
  unfold frozT at e
  split at e
  · rename_i o' e'
    cases e
    exact h.sub a _ e'
  · split at e
    · split at e
      · rename_i vs e2
        cases e
        exact e2
      · rename_i vs e2
        cases e
        exact e2
      · cases e
    · cases e
theorem frozT_l {w : Wd} {M : List Ob} {H : Hp} (h : Hold w M H) {a : Addr} {vs : List V} (ha : a ∈ w.th) (e : H a = some (.lst vs)) : frozT w H a = some (.lst vs) := by
  unfold frozT
  split
  · rename_i o e'
    have := h.sub a o e'
    rw [e] at this
    exact this.symm
  · split
    · rw [e]
    · exact absurd ha (by assumption)
theorem frozT_t {w : Wd} {M : List Ob} {H : Hp} (h : Hold w M H) {a : Addr} {vs : List V} (ha : a ∈ w.th) (e : H a = some (.tup vs)) : frozT w H a = some (.tup vs) := by
  unfold frozT
  split
  · rename_i o e'
    have := h.sub a o e'
    rw [e] at this
    exact this.symm
  · split
    · rw [e]
    · exact absurd ha (by assumption)
def allO (f : U → Option PyData) : List U → Option (List PyData)
  | [] => some []
  | u :: us => match f u, allO f us with
    | some d, some ds => some (d :: ds)
    | _, _ => none
def vd (M : List Ob) : Nat → U → Option PyData
  | n, u => match u with
    | .d d => some d
    | .p i => match n with
      | 0 => none
      | n + 1 => match M[i]? with
        | some (.lst ds) => some (.list ds)
        | some (.lsp us) => (match allO (vd M n) us with | some ds => some (.list ds) | none => none)
        | some (.tpp us) => (match allO (vd M n) us with | some ds => some (.tuple ds) | none => none)
        | _ => none
    | _ => none
theorem allO_ok {f : U → Option PyData} {F : Hp} {w : Wd} : ∀ {us : List U} {vs : List V} {ds : List PyData}, RUs w us vs → (∀ u v d, u ∈ us → RU w u v → f u = some d → Rp F d v) → allO f us = some ds → RpL F ds vs
  | _, _, _, .nil, _, e => by cases e; exact .nil
  | u :: us, v :: vs, ds, .cons r t, g, e => by
    unfold allO at e
    cases q : f u with
    | none => rw [q] at e; cases e
    | some d =>
      rw [q] at e
      cases q2 : allO f us with
      | none => rw [q2] at e; cases e
      | some es =>
        rw [q2] at e
        cases e
        exact .cons (g u v d List.mem_cons_self r q) (allO_ok t (fun u' v' d' hm => g u' v' d' (List.mem_cons_of_mem _ hm)) q2)
theorem vd_froz {w : Wd} {M : List Ob} {H : Hp} (h : Hold w M H) : ∀ (n : Nat) (u : U) (v : V) (d : PyData), RU w u v → vd M n u = some d → Rp (frozT w H) d v
  | n, .d d', v, d, r, e => by
    unfold vd at e
    cases e; exact Rp.mono frozT_F r
  | 0, .p i, v, d, r, e => by unfold vd at e; cases e
  | n + 1, .p i, v, d, r, e => by
    unfold vd at e
    dsimp only at e
    obtain ⟨a, ha, rfl⟩ := r
    have ham := List.mem_of_getElem? ha
    cases hm : M[i]? with
    | none => rw [hm] at e; cases e
    | some m =>
      rw [hm] at e
      obtain ⟨o, ho, q⟩ := h.cell i a _ ha hm
      cases m with
      | lst ds =>
        cases e
        rcases q with q | ⟨_, vs, rfl, q⟩
        · cases q
        · exact .lst (frozT_l h ham ho) (q.mono frozT_F)
      | lsp us =>
        rcases q with q | ⟨_, vs, rfl, q⟩
        · cases q
        · dsimp only at e
          cases q2 : allO (vd M n) us with
          | none => rw [q2] at e; cases e
          | some ds =>
            rw [q2] at e
            cases e
            exact .lst (frozT_l h ham ho) (allO_ok q (fun u' v' d' _ r' e' => vd_froz h n u' v' d' r' e') q2)
      | tpp us =>
        rcases q with q | ⟨_, vs, rfl, q⟩
        · cases q
        · dsimp only at e
          cases q2 : allO (vd M n) us with
          | none => rw [q2] at e; cases e
          | some ds =>
            rw [q2] at e
            cases e
            exact .tup (frozT_t h ham ho) (allO_ok q (fun u' v' d' _ r' e' => vd_froz h n u' v' d' r' e') q2)
      | _ => cases e
  | _, .v _, _, _, _, e => by unfold vd at e; cases e
  | _, .s _ _, _, _, _, e => by unfold vd at e; cases e
/-- a call that reads data and cells, deep ones too, and hands back a plain value -/
def wCallW (d : DSp) (dv : List PyData) (wr : WA) : WE := fun ρ M Q => wr ρ M fun us M1 => ∃ ds, allO (vd M1 5) us = some ds ∧ d ((ds ++ dv).map U.d) [] fun u Mc => ∃ z, u = .d z ∧ flatD z = true ∧ Q (.d z) M1
theorem le_callW {d : DSp} {dvs : List V} {dv : List PyData} {E : XK} {tr : TA} {wr : WA} (hd : ∀ w : Wd, RUs w (dv.map U.d) dvs) (hr : LA tr wr) : LE (tCall (liftSp d) dvs E tr) (wCallW d dv wr) := fun _ _ _ _ _ _ _ h e hq o =>
  hr h e hq fun us M1 vs w1 H1 s1 h1 r1 q1 => by
    obtain ⟨ds, e1, q⟩ := q1
    refine ⟨⟨frozT w1 H1, []⟩, [], _, _, ⟨rfl, .nil, frozT_sub h1, fun n a m e => by simp at e⟩, ?_, q, fun u Mc v w2 H2 s2 h2 r2 q2 => ?_⟩
    · rw [List.map_append]
      exact rus_app (RUs.of (w := ⟨frozT w1 H1, []⟩) (allO_ok r1 (fun u v d _ r e => vd_froz h1 5 u v d r e) e1)) (hd _)
    · obtain ⟨z, rfl, hz, q2⟩ := q2
      have keep : ∀ a o, H1 a = some o → H2 a = some o := fun a o e => s2.fr a o e (by simp)
      refine (o.trans s1 h1) _ _ v w1 H2 ⟨Same.refl _, ⟨[], by simp, by simp⟩, fun a o e _ => keep a o e, fun a o e1 e2 => by rw [e1] at e2; cases e2⟩ ?_ (RU.D (rp_flat hz (show Rp w2.F z v from r2))) q2
      refine ⟨h1.len, h1.nd, fun a o e => keep a o (h1.sub a o e), fun n a m e1 e2 => ?_⟩
      obtain ⟨ob, e3, e4⟩ := h1.cell n a m e1 e2
      exact ⟨ob, keep a ob e3, e4⟩
/-- == and != of deep values -/
def wEqW : R2' := fun x y M Q => ∃ a b, vd M 5 x = some a ∧ vd M 5 y = some b ∧ eqOk a b ∧ Q (.d (.bool (PyData.eqv a b))) M
def wNeW : R2' := fun x y M Q => ∃ a b, vd M 5 x = some a ∧ vd M 5 y = some b ∧ eqOk a b ∧ Q (.d (.bool (!PyData.eqv a b))) M
theorem lr_eqW {K : PySem.W.Frag} : LR (rEqAll K) wEqW := fun w M H x y vx vy Qu Q h rx ry hq o => by
  obtain ⟨a, b, ha, hb, hC, q⟩ := hq
  have ra := vd_froz h 5 _ _ _ rx ha
  have rb := vd_froz h 5 _ _ _ ry hb
  rcases hC with hC | hC
  · obtain ⟨h1, h2⟩ := scl_ok (w := ⟨frozT w H, []⟩) (vw_of (w := ⟨frozT w H, []⟩) (frozT_sub h) ra) (vw_of (w := ⟨frozT w H, []⟩) (frozT_sub h) rb) hC
    refine .inl ⟨h1, ?_⟩
    rw [h2]
    exact o.here h (RU.D (.bl _)) q
  · exact .inr ⟨a, b, ra.dp (frozT_sub h), rb.dp (frozT_sub h), hC.1, hC.2, o.here h (RU.D (.bl _)) q⟩
theorem lr_neW {K : PySem.W.Frag} : LR (rNeAll K) wNeW := fun w M H x y vx vy Qu Q h rx ry hq o => by
  obtain ⟨a, b, ha, hb, hC, q⟩ := hq
  have ra := vd_froz h 5 _ _ _ rx ha
  have rb := vd_froz h 5 _ _ _ ry hb
  rcases hC with hC | hC
  · obtain ⟨h1, h2⟩ := scl_ok (w := ⟨frozT w H, []⟩) (vw_of (w := ⟨frozT w H, []⟩) (frozT_sub h) ra) (vw_of (w := ⟨frozT w H, []⟩) (frozT_sub h) rb) hC
    refine .inl ⟨h1, ?_⟩
    rw [h2]
    exact o.here h (RU.D (.bl _)) q
  · exact .inr ⟨a, b, ra.dp (frozT_sub h), rb.dp (frozT_sub h), hC.1, hC.2, o.here h (RU.D (.bl _)) q⟩
/-- isinstance of a deep value -/
def wIsiCW (c : Cl) (we : WE) : WE := fun ρ M Q => we ρ M fun x M1 => ∃ d, vd M1 5 x = some d ∧ noDict d = true ∧ Q (.d (.bool (isD c d))) M1
theorem le_isiCW {K : PySem.W.Frag} (c : Cl) {te : TE} {we : WE} (he : LE te we) : LE (tCB (rIsi K) (tCons te (tCons (tC (.ty c.name)) tNil))) (wIsiCW c we) := fun _ _ _ _ _ _ _ h e hq o =>
  he h e hq fun x M1 v w1 H1 s1 h1 r1 q1 => by
    obtain ⟨d, hv, hd, q⟩ := q1
    obtain ⟨n, hk, hb⟩ := kit_one (K := K) c d hd
    exact ⟨v, .ty c.name, .type n, .type c.name, _, rfl, .ty _, kind_ok (frozT_sub h1) (vw_of (w := ⟨frozT w1 H1, []⟩) (frozT_sub h1) (vd_froz h1 5 _ _ _ r1 hv)) hk, hb, (o.trans s1 h1).here h1 (RU.D (.bl _)) q⟩
end DL

/-! ### a tuple of data and a list is left as data -/
namespace DL
open PySem L2
def wFzM (we : WE) : WE := fun ρ M Q => we ρ M fun x M1 => ∃ n i d ds, x = .p n ∧ M1[n]? = some (.tpp [.d d, .p i]) ∧ M1[i]? = some (.lst ds) ∧ i ≠ n ∧ Q (.d (.tuple [d, .list ds])) ((M1.set i .dead).set n .dead)
theorem le_fzM {te : TE} {we : WE} (he : LE te we) : LE te (wFzM we) := fun _ _ _ _ _ _ _ h e hq o =>
  he h e hq fun x M1 v w1 H1 s1 h1 r1 q1 => by
    obtain ⟨n, i, d, ds, rfl, hm, hi, hne, q⟩ := q1
    obtain ⟨a, ob, rfl, ha, ho, vs, rfl, rs⟩ := cell_at h1 r1 hm (fun q => nomatch q)
    obtain ⟨v1, v2, rfl, x1, x2⟩ := rus2 rs
    obtain ⟨b, ob2, rfl, hb, ho2, ws, rfl, rr⟩ := cell_at h1 x2 hi (fun q => nomatch q)
    have hab : b ≠ a := fun z => by subst z; rw [ho] at ho2; cases ho2
    have hF : w1.F b = none := by
      obtain ⟨_, _, e⟩ := h1.cell i b _ hb hi
      rcases e with e | ⟨e, _⟩
      · cases e
      · exact e
    have h2 := h1.frz hb hi (fun q => nomatch q) ho2
    have s2 := Step.frz (o := .lst ws) h1 hb hi (fun q => nomatch q)
    have hm2 : (M1.set i .dead)[n]? = some (.tpp [.d d, .p i]) := by rw [List.getElem?_set_ne hne]; exact hm
    have ha2 : (w1.put b (.lst ws)).th[n]? = some a := ha
    have hF2 : (w1.put b (.lst ws)).F a = none := by
      obtain ⟨_, _, e⟩ := h2.cell n a _ ha2 hm2
      rcases e with e | ⟨e, _⟩
      · cases e
      · exact e
    have h3 := h2.frz ha2 hm2 (fun q => nomatch q) ho
    have s3 := Step.frz (o := .tup [v1, .ref b]) h2 ha2 hm2 (fun q => nomatch q)
    have m1 : Same w1.F (w1.put b (.lst ws)).F := same_put hF
    have m2 : Same (w1.put b (.lst ws)).F ((w1.put b (.lst ws)).put a (.tup [v1, .ref b])).F := same_put hF2
    refine (o.trans s1 h1) _ _ _ _ _ (s2.trans h2 s3) h3 ?_ q
    refine RU.D (.tup Wd.putF (.cons ?_ (.cons (.lst (vs := ws) ?_ ?_) .nil)))
    · exact Rp.mono m2 (Rp.mono m1 x1)
    · exact m2 _ _ Wd.putF
    · exact (rr.mono m1).mono m2
end DL

/-! ### l[::s]; lists of cells: made by a comprehension, walked over, joined, searched -/
namespace DL
open PySem L2 PySem.Spec PyProof.Rows
theorem pick_one (items : Array Value) : slicePick items none none (some 1) = items.toList.toArray := by
  have e : slicePick items none none (some 1) = slicePick items none none none := rfl
  rw [e]
  have h : slicePick items none none none = (List.take items.size items.toList).toArray := by simpa [HT.sIx_none] using slicePick_cut items.toList none none
  rw [h, List.take_of_length_le (by simp)]
def tSlS (K : PySem.W.Frag) (te ts : TE) : TE := fun σ H Q => te σ H fun x H1 => tPart ts σ H1 fun o H2 => ∃ a xs st, x = .ref a ∧ o = some st ∧ (st = 1 ∨ st = -1) ∧ SqL K H2 a xs ∧ ∀ p, H2 p = none → Q (.ref p) (upd H2 p (.lst (if st = 1 then xs else xs.reverse)))
theorem pe_slS {X : Cx} {e e2 : Expr} {te ts : TE} {p3 pos : Pos} (he : PE X e te) (h2 : PE X e2 ts) : PE X (.Subscript e (.Slice none none (some e2) p3) pos) (tSlS X.K te ts) := by
  refine ⟨fun pins s σ H Q I h => ?_⟩
  refine Subscript_ (thn (he.run pins s σ H _ I h) fun v s1 ⟨x, H1, I1, r1, q1⟩ => ?_)
  have hst : PO X (some e2) (tPart ts) := po_some h2
  refine wpAny_Slice (thn (po_none.run pins s1 σ H1 (fun o H2 => o = none ∧ H2 = H1) I1 ⟨rfl, rfl⟩) fun vl s2 ⟨l, H2, I2, pl, el, e2'⟩ => ?_)
  subst el e2'
  refine thn (po_none.run pins s2 σ H2 (fun o H3 => o = none ∧ H3 = H2) I2 ⟨rfl, rfl⟩) fun vu s3 ⟨u, H3, I3, pu, eu, e3⟩ => ?_
  subst eu e3
  refine thn (hst.run pins s3 σ H3 _ I3 q1) fun vs s4 ⟨o, H4, I4, ps, a, xs, st, ex, eo, hs1, hx, q⟩ => ?_
  subst ex eo
  cases r1
  have I5 : Inv X pins σ H4 { s4 with heap := s4.heap.push { cls := .type "slice", data := .fields #[vl, vu, vs] } } := I4.kept (t' := s4.toks) fun b ob q => Heap.get?_push_of_some _ q
  obtain ⟨its, r, ht, hz⟩ := I5.list hx
  have hlen := r.length
  show wpAny (model X.prog X.w) X.A (subscriptTail e (.Slice none none (some e2) p3) (.ref a) (.ref s4.heap.objs.size)) (EP X pins σ Q) X.xe { s4 with heap := s4.heap.push { cls := .type "slice", data := .fields #[vl, vu, vs] } }
  refine tail_any (ops := [.ref a, .ref s4.heap.objs.size]) ht.isList.typeIs (PySem.slot_list_getitem.lookup) ?_ (by with_unfolding_all rfl)
  refine wpAny_getItem_list_slice ht.isList (Heap.IsSliceOf.new _ vl vu vs) pl pu ps (by rcases hs1 with rfl | rfl <;> decide) ?_ (by rw [List.size_toArray]; omega)
  rcases hs1 with rfl | rfl
  · rw [pick_one]
    refine ⟨.ref _, _, I5.laid (t' := s4.toks) (o := .lst xs) (fun b ob q => Heap.get?_push_of_some _ q) (Nat.le_refl _) ?_, rfl, q _ (I5.hok.fresh (Nat.le_refl _))⟩
    exact ⟨hz, _, 0, r, Heap.get?_push_size _ rfl⟩
  · rw [PySem.W.krv_pick]
    refine ⟨.ref _, _, I5.laid (t' := s4.toks) (o := .lst xs.reverse) (fun b ob q => Heap.get?_push_of_some _ q) (Nat.le_refl _) ?_, rfl, q _ (I5.hok.fresh (Nat.le_refl _))⟩
    exact ⟨by rw [List.length_reverse]; exact hz, _, 0, r.reverse, Heap.get?_push_size _ rfl⟩
def wSlS (we ws : WE) : WE := fun ρ M Q => we ρ M fun x M1 => ws ρ M1 fun y M2 => ∃ st ds, view M2 y = some (.int st) ∧ view M2 x = some (.list ds) ∧ (st = 1 ∨ st = -1) ∧ Q (.d (.list (if st = 1 then ds else ds.reverse))) M2
theorem le_slS {K : PySem.W.Frag} {te ts : TE} {we ws : WE} (he : LE te we) (hs : LE ts ws) : LE (tSlS K te ts) (wSlS we ws) := fun _ _ _ _ _ _ _ h e hq o =>
  he h e hq fun x M1 v1 w1 H1 s1 h1 r1 q1 => hs h1 (e.grow s1.grow) q1 fun y M2 v2 w2 H2 s2 h2 r2 q2 => by
    obtain ⟨st, ds, hy, hx, hst, q⟩ := q2
    have ey := vw_int (view_ok h2 r2 hy)
    subst ey
    obtain ⟨a, vs, rfl, ha, rr⟩ := view_ok h2 (r1.grow s2.grow) hx
    refine ⟨st, rfl, a, vs, st, rfl, rfl, hst, SqL.of ha, fun p hp => ?_⟩
    refine ((o.trans s1 h1).trans s2 h2) _ _ _ _ _ (Step.put h2 hp) (h2.put hp) (RU.D (.lst Wd.putF ?_)) q
    have m := same_put (o := .lst (if st = 1 then vs else vs.reverse)) (h2.newF hp)
    rcases hst with rfl | rfl
    · exact rr.mono m
    · exact rr.reverse.mono m
/-! a comprehension that makes cells -/
section
variable {wi : TI} {ww : WI} {g : TG} {wg : WG} {tt : TT} {wt : WT} {te : TE} {we : WE} {vs : List Nat}
def wLcP (ww : WI) (wg : WG) (k : WK) (vs : List Nat) : WE := fun ρ M Q => ww ρ M fun us G M1 => wLcGo G wg k (wipeR ρ vs) us [] M1 fun acc M2 => Q (.p M2.length) (M2 ++ [.lsp acc])
theorem prv_cellP {w w' : Wd} {M' : List Ob} {H H' : Hp} {D : Addr} {acc : List U} {Qu : U → List Ob → Prop} {Q : VK} (s : Step w H w' H') (hD : H D = none) (h : Hold w' M' H') (p : Prv w' H' D acc) (q : Qu (.p M'.length) (M' ++ [.lsp acc])) (o : Out RU w H Qu Q) : Q (.ref D) H' := by
  obtain ⟨vs, hv, rv⟩ := p.at_
  exact o _ _ _ _ _ (s.prvCell hD) (h.prvCell p.F p.th hv (RO.LP (RUs.grow Grow.cell rv))) (RU.P (Wd.cell_at h)) q
theorem le_lcP (hi : LI wi ww) (hg : LGv vs g wg) (ht : LT tt wt) (he : LE te we) : LE (tLc wi g tt te vs) (wLcP ww wg (kElt wt we) vs) := fun w M H σ ρ Qu Q h e hq o =>
  lc_begin (f := fun D => fElt D tt te) hi hg (fun D => lk_elt ht he) h e hq fun D acc M' w' H' hD s h' p q => prv_cellP s hD h' p q o
end
/-! a walk over a list of cells -/
theorem j_listP {K : PySem.W.Frag} {w : Wd} {n : Nat} {a : Addr} {us : List U} (ha : w.th[n]? = some a) : JOk w (Itl K a) us fun M' => M'[n]? = some (.lsp us) where
  stop := fun {w' M H} i g h hm hi => by
    obtain ⟨b, ob, e, _, ho, vs, rfl, r⟩ := cell_at h (RU.P (g.th _ _ ha)) hm (fun q => nomatch q)
    cases e
    exact ⟨vs, SqL.of ho, by rw [← Paired.length r]; exact hi⟩
  go := fun {w' M H} i g h hm hi => by
    obtain ⟨b, ob, e, _, ho, vs, rfl, r⟩ := cell_at h (RU.P (g.th _ _ ha)) hm (fun q => nomatch q)
    cases e
    have hi' : i < vs.length := by rw [← Paired.length r]; exact hi
    exact ⟨vs, vs[i], SqL.of ho, List.getElem?_eq_getElem hi'⟩
  yld := fun {w' M H H' v u} i g h hm hu y => by
    obtain ⟨b, ob, e, _, ho, vs, rfl, r⟩ := cell_at h (RU.P (g.th _ _ ha)) hm (fun q => nomatch q)
    cases e
    obtain ⟨rfl, y⟩ := y
    obtain ⟨v', h1, h2⟩ := rus_get r hu
    have h3 := y vs (SqL.of ho)
    rw [h1] at h3; cases h3
    exact ⟨w', Step.refl _ _, h, h2⟩
def wIListP (we : WE) : WI := fun ρ M Q => we ρ M fun x M1 => ∃ n us, x = .p n ∧ M1[n]? = some (.lsp us) ∧ Q us (fun M' => M'[n]? = some (.lsp us)) M1
theorem li_listP {K : PySem.W.Frag} {te : TE} {we : WE} (he : LE te we) : LI (iList K te) (wIListP we) := fun _ _ _ _ _ _ _ h e hq k =>
  he h e hq fun _ _ _ _ _ s1 h1 r1 q1 => by
    obtain ⟨n, us, rfl, hm, q⟩ := q1
    obtain ⟨a, ob, rfl, ha, ho, vs, rfl, r⟩ := cell_at h1 r1 hm (fun q => nomatch q)
    exact ⟨_, rfl, ⟨_, SqL.of ho⟩, k _ _ _ _ _ _ s1 h1 (j_listP ha) q⟩
/-! two lists of cells joined -/
def wAddP : R2' := fun x y M Q => ∃ n m us vs, x = .p n ∧ y = .p m ∧ M[n]? = some (.lsp us) ∧ M[m]? = some (.lsp vs) ∧ us.length + vs.length ≤ sizeLine ∧ Q (.p M.length) (M ++ [.lsp (us ++ vs)])
theorem paired_app {α β : Type} {R : α → β → Prop} : ∀ {as : List α} {bs : List β} {cs : List α} {ds : List β}, Paired R as bs → Paired R cs ds → Paired R (as ++ cs) (bs ++ ds)
  | _, _, _, _, .nil, h => h
  | _, _, _, _, .cons a t, h => .cons a (paired_app t h)
theorem lr_addP {K : PySem.W.Frag} : LR (rAddAll K) wAddP := fun w M H x y vx vy Qu Q h rx ry hq o => by
  obtain ⟨n, m, us, vs, rfl, rfl, hn, hm, hl, q⟩ := hq
  obtain ⟨a, ob, rfl, ha, ho, ws, rfl, r⟩ := cell_at h rx hn (fun q => nomatch q)
  obtain ⟨b, ob2, rfl, hb, ho2, zs, rfl, r2⟩ := cell_at h ry hm (fun q => nomatch q)
  refine .inr (.inl ⟨a, b, ws, zs, rfl, rfl, ho, ho2, by rw [← Paired.length r, ← Paired.length r2]; exact hl, fun p hp => ?_⟩)
  exact o _ _ _ _ _ (Step.cell h hp) (h.cell' hp (RO.LP (RUs.grow Grow.cell (paired_app r r2)))) (RU.P (Wd.cell_at h)) q
/-! in, of deep values -/
def wInW : R2' := fun x y M Q => ∃ a ds, vd M 5 x = some a ∧ vd M 5 y = some (.list ds) ∧ SeqAt.shaped a = true ∧ SeqAt.shaped (.list ds) = true ∧ Q (.d (.bool (ds.any fun z => PyData.eqv z a))) M
theorem lr_inW {K : PySem.W.Frag} : LR (rInAll K) wInW := fun w M H x y vx vy Qu Q h rx ry hq o => by
  obtain ⟨a, ds, ha, hb, h1, h2, q⟩ := hq
  have ra := vd_froz h 5 _ _ _ rx ha
  have rb := vd_froz h 5 _ _ _ ry hb
  exact .inl ⟨a, ds, ra.dp (frozT_sub h), rb.dp (frozT_sub h), h1, h2, o.here h (RU.D (.bl _)) q⟩
end DL

/-! ### str of a whole number or a text -/
namespace DL
open PySem L2 PySem.Spec PyProof.Rows
def rStrX : List V → Hp → VK → Prop := fun xs H Q => (∃ i : Int, xs = [.int i] ∧ i.natAbs.log2 < 1920 ∧ Q (.str (toString i)) H) ∨ ∃ a, xs = [.str a] ∧ Q (.str a) H
theorem call_strX {X : Cx} : CallR X (.type "str") rStrX := by
  intro pins s σ H xs us Q I r h
  rcases h with h | h
  · exact call_str_int pins s σ H xs us Q I r h
  · exact SkE.call_str_str pins s σ H xs us Q I r h
def wStrX : List U → List Ob → (U → List Ob → Prop) → Prop := fun us M Q => ∃ u, us = [u] ∧ ((∃ i, view M u = some (.int i) ∧ i.natAbs.log2 < 1920 ∧ Q (.d (.str (itx i))) M) ∨ ∃ z, view M u = some (.str z) ∧ Q (.d (.str z)) M)
theorem lc_strX : LC rStrX wStrX := fun w M H x vx Qu Q h rx hq o => by
  obtain ⟨u, rfl, hq⟩ := hq
  obtain ⟨v, rfl, r⟩ := rus1 rx
  rcases hq with ⟨i, hv, h1, q⟩ | ⟨z, hv, q⟩
  · exact .inl ⟨i, by rw [vw_int (view_ok h r hv)], h1, o.here h (RU.D (.str _)) q⟩
  · exact .inr ⟨z, by rw [vw_str (view_ok h r hv)], o.here h (RU.D (.str _)) q⟩
end DL

/-! ### own exceptions: raised, let through, caught -/
namespace DL
open PySem L2 PySem.Spec PyProof.Rows
/-- how an exception lies in the heap: its fields' dict is data -/
def RX (w : Wd) (x : XV) (cls : Value) (d : Option Addr) : Prop := cls = .ref x.C ∧ ∀ f v, x.fs.lookup f = some v → ∃ dd gs u, d = some dd ∧ w.F dd = some (.xd gs) ∧ gs.lookup f = some u ∧ Rp w.F v u
theorem RX.mono {w w' : Wd} {x : XV} {cls : Value} {d : Option Addr} (g : Same w.F w'.F) (r : RX w x cls d) : RX w' x cls d := ⟨r.1, fun f v e => by
  obtain ⟨dd, gs, u, e1, e2, e3, e4⟩ := r.2 f v e
  exact ⟨dd, gs, u, e1, g _ _ e2, e3, e4.mono g⟩⟩
def OutX (w : Wd) (H : Hp) (Xu : XV → List Ob → Prop) (E : XK) : Prop := ∀ ⦃x : XV⦄ ⦃M' : List Ob⦄ ⦃cls : Value⦄ ⦃d : Option Addr⦄ ⦃w' : Wd⦄ ⦃H' : Hp⦄, Step w H w' H' → Hold w' M' H' → RX w' x cls d → Xu x M' → E cls d H'
def OutS (w : Wd) (H : Hp) (ex : XV → Rho → List Ob → Prop) (W : WX) : Prop := ∀ ⦃x : XV⦄ ⦃ρ' : Rho⦄ ⦃M' : List Ob⦄ ⦃cls : Value⦄ ⦃d : Option Addr⦄ ⦃σ' : L2.St⦄ ⦃w' : Wd⦄ ⦃H' : Hp⦄, Step w H w' H' → Hold w' M' H' → Env w' σ' ρ' → RX w' x cls d → ex x ρ' M' → W cls d σ' H'
theorem OutX.trans {w w1 : Wd} {H H1 : Hp} {M1 : List Ob} {Xu : XV → List Ob → Prop} {E : XK} (s : Step w H w1 H1) (h : Hold w1 M1 H1) (o : OutX w H Xu E) : OutX w1 H1 Xu E := fun _ _ _ _ _ _ s' h' r q => o (s.trans h s') h' r q
theorem OutS.trans {w w1 : Wd} {H H1 : Hp} {M1 : List Ob} {ex : XV → Rho → List Ob → Prop} {W : WX} (s : Step w H w1 H1) (h : Hold w1 M1 H1) (o : OutS w H ex W) : OutS w1 H1 ex W := fun _ _ _ _ _ _ _ _ s' h' e r q => o (s.trans h s') h' e r q
/-- an expression that may raise; a statement that may raise -/
abbrev WEX := Rho → List Ob → (U → List Ob → Prop) → (XV → List Ob → Prop) → Prop
def LEX (W : WX) (te : TE) (we : WEX) : Prop := ∀ ⦃w : Wd⦄ ⦃M : List Ob⦄ ⦃H : Hp⦄ ⦃σ : L2.St⦄ ⦃ρ : Rho⦄ ⦃Qu : U → List Ob → Prop⦄ ⦃Xu : XV → List Ob → Prop⦄ ⦃Q : VK⦄, Hold w M H → Env w σ ρ → we ρ M Qu Xu → Out RU w H Qu Q → OutX w H Xu (L2.WE W σ) → te σ H Q
def LSX (W : WX) (ts : TS) (ws : WS) : Prop := ∀ ⦃w : Wd⦄ ⦃M : List Ob⦄ ⦃H : Hp⦄ ⦃σ : L2.St⦄ ⦃ρ : Rho⦄ ⦃De : DEnds⦄ ⦃E : Ends⦄, Hold w M H → Env w σ ρ → ws De ρ M → EndsOk w H De E → OutS w H De.ex W → ts E σ H
theorem OutS.at_ {w : Wd} {H : Hp} {ex : XV → Rho → List Ob → Prop} {W : WX} {σ : L2.St} {ρ : Rho} (o : OutS w H ex W) (e : Env w σ ρ) : OutX w H (fun x M' => ex x ρ M') (L2.WE W σ) := fun _ _ _ _ _ _ s h r q => o s h (e.grow s.grow) r q
section
variable {W : WX} {te : TE} {we : WE} {wx : WEX} {t u : TS} {wt wu : WS} {tt : TT} {wq : WT} {g : TG} {wg : WG}
theorem lsx_of (hs : LS t wt) : LSX W t wt := fun _ _ _ _ _ _ _ h e q o _ => hs h e q o
def wLift (we : WE) : WEX := fun ρ M Q _ => we ρ M Q
theorem lex_of (he : LE te we) : LEX W te (wLift we) := fun _ _ _ _ _ _ _ _ h e q o _ => he h e q o
theorem lsx_seq (ht : LSX W t wt) (hu : LSX W u wu) : LSX W (tSeq t u) (wSeq wt wu) := fun _ _ _ _ _ _ _ h e hq o ox =>
  ht h e hq ⟨fun _ _ _ _ _ s1 h1 e1 q1 => hu h1 e1 q1 (o.trans s1 h1) (ox.trans s1 h1), o.rt, o.bk, o.ct⟩ ox
theorem lsx_cut (ht : LSX W t wt) (hu : LSX W u wu) : LSX W (tSeq t u) (wCut wt wu) := fun _ _ _ _ _ _ _ h e hq o ox => by
  obtain ⟨Mid, q1, q2⟩ := hq
  exact ht h e q1 ⟨fun _ _ _ _ _ s1 h1 e1 m => hu h1 e1 (q2 _ _ m) (o.trans s1 h1) (ox.trans s1 h1), o.rt, o.bk, o.ct⟩ ox
theorem lsx_if (hq : LT tt wq) (ht : LSX W t wt) (hu : LSX W u wu) : LSX W (tIfS tt t u) (wIfS wq wt wu) := fun _ _ _ _ _ _ _ h e q o ox =>
  hq h e q fun b _ c _ _ s1 h1 r1 q1 => by
    have r : b = c := r1
    subst r
    cases b with
    | true => exact ht h1 (e.grow s1.grow) q1 (o.trans s1 h1) (ox.trans s1 h1)
    | false => exact hu h1 (e.grow s1.grow) q1 (o.trans s1 h1) (ox.trans s1 h1)
/-- x = e, return e, e, where e may raise -/
def wAsgX (we : WEX) (wg : WG) : WS := fun D ρ M => we ρ M (fun x M1 => wg x ρ M1 D.nx) (fun x M1 => D.ex x ρ M1)
theorem lsx_asg (he : LEX W te wx) (hg : LG g wg) : LSX W (tAsg te g) (wAsgX wx wg) := fun _ _ _ _ _ _ _ h e hq o ox =>
  he h e hq (fun _ _ _ _ _ s1 h1 r1 q1 => hg h1 (e.grow s1.grow) r1 q1 (o.nx.trans s1 h1)) (ox.at_ e)
def wRetX (we : WEX) : WS := fun D ρ M => we ρ M D.rt (fun x M1 => D.ex x ρ M1)
theorem lsx_ret (he : LEX W te wx) : LSX W (tRet te) (wRetX wx) := fun _ _ _ _ _ _ _ h e hq o ox => he h e hq o.rt (ox.at_ e)
def wDropX (we : WEX) : WS := fun D ρ M => we ρ M (fun _ M1 => D.nx ρ M1) (fun x M1 => D.ex x ρ M1)
theorem lsx_drop (he : LEX W te wx) : LSX W (tDrop te) (wDropX wx) := fun _ _ _ _ _ _ _ h e hq o ox =>
  he h e hq (fun _ _ _ _ _ s1 h1 _ q1 => o.nx _ _ _ _ _ s1 h1 (e.grow s1.grow) q1) (ox.at_ e)
theorem lsx_while (hq : LT tt wq) (ht : LSX W t wt) : LSX W (tWhile tt t) (wWhile wq wt) := fun w M H σ ρ De E h e q o ox => by
  obtain ⟨I, ⟨m0, w0⟩, turn⟩ := q
  refine ⟨fun m σ' H' => ∃ w' M' ρ', Step w H w' H' ∧ Hold w' M' H' ∧ Env w' σ' ρ' ∧ I m ρ' M', ⟨m0, w, M, ρ, Step.refl _ _, h, e, w0⟩, ?_⟩
  rintro m σ' H' ⟨w', M', ρ', s', h', e', hw⟩
  refine hq h' e' (turn m ρ' M' hw) fun b M1 c w1 H1 s1 h1 r1 q1 => ?_
  have r : b = c := r1
  subst r
  have s2 := s'.trans h' s1
  cases b with
  | true =>
    refine ⟨fun σ2 H2 => ∃ m', m' < m ∧ ∃ w' M' ρ', Step w H w' H2 ∧ Hold w' M' H2 ∧ Env w' σ2 ρ' ∧ I m' ρ' M', fun σ2 H2 k => k, ?_⟩
    refine ht h1 (e'.grow s1.grow) q1 ⟨?_, o.rt.trans s2 h1, o.nx.trans s2 h1, ?_⟩ (ox.trans s2 h1)
    · rintro ρ3 M3 σ3 w3 H3 s3 h3 e3 ⟨m', hm, hw'⟩
      exact ⟨m', hm, w3, M3, ρ3, s2.trans h1 s3, h3, e3, hw'⟩
    · rintro ρ3 M3 σ3 w3 H3 s3 h3 e3 ⟨m', hm, hw'⟩
      exact ⟨m', hm, w3, M3, ρ3, s2.trans h1 s3, h3, e3, hw'⟩
  | false => exact o.nx _ _ _ _ _ s2 h1 (e'.grow s1.grow) q1
theorem lsx_for {wi : TI} {tb : TS} {ww : WI} {wb : WS} (hi : LI wi ww) (hg : LG g wg) (hb : LSX W tb wb) : LSX W (tFor wi g tb) (wFor ww wg wb) := fun w M H σ ρ De E h e hq o ox => by
  refine hi h e hq fun us G M1 J w1 H1 s1 h1 j q => ?_
  refine ⟨fun i m σ' H' => m = us.length - i ∧ ∃ w' M' ρ', Step w H w' H' ∧ Grow w1 w' ∧ Hold w' M' H' ∧ Env w' σ' ρ' ∧ wLoop G wg wb De (us.drop i) ρ' M', ⟨us.length, by simp, w1, M1, ρ, s1, Grow.refl _, h1, e.grow s1.grow, q⟩, ?_⟩
  rintro i m σ' H' ⟨hm, w', M', ρ', s', g', h', e', q'⟩
  by_cases hi' : i < us.length
  · right
    have hG := wLoop_G q'
    rw [List.drop_eq_getElem_cons hi'] at q'
    refine ⟨j.go i g' h' hG hi', fun σ2 H2 => ∃ w2 M2 ρ2, Step w H w2 H2 ∧ Grow w1 w2 ∧ Hold w2 M2 H2 ∧ Env w2 σ2 ρ2 ∧ wLoop G wg wb De (us.drop (i + 1)) ρ2 M2, ?_, fun v H2 y => ?_⟩
    · rintro σ2 H2 ⟨w2, M2, ρ2, z⟩
      exact ⟨us.length - (i + 1), by omega, rfl, w2, M2, ρ2, z⟩
    · obtain ⟨w2, s2, h2, r2⟩ := j.yld i g' h' hG (List.getElem?_eq_getElem hi') y
      have s3 := s'.trans h' s2
      have g3 := g'.trans s2.grow
      refine hg h2 (e'.grow s2.grow) r2 q'.2 fun ρ3 M3 σ3 w3 H3 s4 h3 e3 q3 => ?_
      have s5 := s3.trans h2 s4
      have g5 := g3.trans s4.grow
      refine hb h3 e3 q3 ⟨?_, o.rt.trans s5 h3, o.nx.trans s5 h3, ?_⟩ (ox.trans s5 h3)
      · intro ρ4 M4 σ4 w4 H4 s6 h4 e4 q4
        exact ⟨w4, M4, ρ4, s5.trans h3 s6, g5.trans s6.grow, h4, e4, q4⟩
      · intro ρ4 M4 σ4 w4 H4 s6 h4 e4 q4
        exact ⟨w4, M4, ρ4, s5.trans h3 s6, g5.trans s6.grow, h4, e4, q4⟩
  · left
    rw [List.drop_of_length_le (by omega)] at q'
    exact ⟨j.stop i g' h' q'.1 (by omega), o.nx _ _ _ _ _ s' h' e' q'.2⟩
end
/-! ### defs that may raise -/
abbrev DSpX := List U → List Ob → (U → List Ob → Prop) → (XV → List Ob → Prop) → Prop
def liftSpX (d : DSpX) : Sp := fun vs H Q E => ∃ (w : Wd) (M : List Ob) (us : List U) (Qu : U → List Ob → Prop) (Xu : XV → List Ob → Prop), Hold w M H ∧ RUs w us vs ∧ d us M Qu Xu ∧ Out RU w H Qu Q ∧ OutX w H Xu E
theorem lift_lenX {d : DSpX} {n : Nat} (h : ∀ us M Qu Xu, d us M Qu Xu → us.length = n) : ∀ vs H Q E, liftSpX d vs H Q E → vs.length = n := by
  rintro vs H Q E ⟨w, M, us, Qu, Xu, _, r, q, _⟩
  rw [← Paired.length r]; exact h _ _ _ _ q
/-- the handed cells alone are left -/
def FinX (M0 : List Ob) (Xu : XV → List Ob → Prop) (x : XV) (M' : List Ob) : Prop := M0.length ≤ M'.length ∧ (∀ o ∈ M'.take M0.length, okOb M0.length o) ∧ Xu x (M'.take M0.length)
theorem cut_core {w w' : Wd} {M M' : List Ob} {H H' : Hp} (h : Hold w M H) (s : Step w H w' H') (h' : Hold w' M' H') (ko : ∀ o ∈ M'.take M.length, okOb M.length o) : Step w H ⟨w'.F, w'.th.take M.length⟩ H' ∧ Hold ⟨w'.F, w'.th.take M.length⟩ (M'.take M.length) H' := by
  obtain ⟨F', th'⟩ := w'
  obtain ⟨t, et, ht⟩ := s.th
  have et' : th' = w.th ++ t := et
  refine ⟨⟨s.F, ⟨[], ?_, by simp⟩, s.fr, s.own⟩, ⟨?_, ?_, h'.sub, fun n a b e1 e2 => ?_⟩⟩
  · show th'.take M.length = _
    rw [et', ← h.len, List.take_append_of_le_length (Nat.le_refl _), List.take_length, List.append_nil]
  · show (th'.take M.length).length = _
    have e : th'.length = M'.length := h'.len
    rw [List.length_take, List.length_take, e]
  · exact List.Sublist.nodup (List.take_sublist M.length th') h'.nd
  · have hn : n < M.length := by
      have := (List.getElem?_eq_some_iff.mp e2).1
      rw [List.length_take] at this
      omega
    have e1' : (th'.take M.length)[n]? = some a := e1
    rw [List.getElem?_take_of_lt hn] at e1'
    have e2' := e2
    rw [List.getElem?_take_of_lt hn] at e2'
    obtain ⟨ob, e3, e4⟩ := h'.cell n a b e1' e2'
    exact ⟨ob, e3, e4.imp id fun ⟨q1, q2⟩ => ⟨q1, RO.cut (F := F') (th := th') q2 (ko b (List.mem_of_getElem? e2))⟩⟩
theorem out_finX {w : Wd} {M : List Ob} {H : Hp} {Xu : XV → List Ob → Prop} {E : XK} (h : Hold w M H) (o : OutX w H Xu E) : OutX w H (FinX M Xu) E := fun x M' cls d w' H' s h' r ⟨_, ko, q⟩ => by
  obtain ⟨s2, h2⟩ := cut_core h s h' ko
  exact o s2 h2 (r.mono (Same.refl _)) q
theorem fin_x0 {M' : List Ob} {Xu : XV → List Ob → Prop} {x : XV} (q : Xu x []) : FinX [] Xu x M' := ⟨Nat.zero_le _, by simp, by simpa using q⟩
theorem body_okX {d : DSpX} {N : List Str} {ts : TS} {ws : WS} {vs : List V} {H : Hp} {Q : VK} {E : XK} (hs : LSX (fun cls d _ H => E cls d H) ts ws) (hd : ∀ us M Qu Xu, d us M Qu Xu → ws { nx := fun _ M' => Fin' M Qu (.d .none) M', rt := Fin' M Qu, ex := fun x _ M' => FinX M Xu x M' } (startR N.length us) M)
    (h : liftSpX d vs H Q E) : ts { nx := fun _ H' => Q .non H', rt := Q } (L2.start N vs) H := by
  obtain ⟨w, M, us, Qu, Xu, hw, r, q, o, ox⟩ := h
  have o' := out_fin hw o
  have ox' := out_finX hw ox
  exact hs hw (env_start r) (hd us M Qu Xu q) ⟨fun ρ' M' σ' w' H' s h' _ q' => o' _ _ _ _ _ s h' (RU.D .non) q', o', fun _ _ _ _ _ _ _ _ q => q.elim, fun _ _ _ _ _ _ _ _ q => q.elim⟩ fun x ρ' M' cls dd σ' w' H' s h' e r' q' => ox' s h' r' q'
theorem def_okX {X : Cx} {bd : List Stmt} {t : TS} {ws : WS} {d : DSpX} {N : List Str} {vs : List V} {H : Hp} {Q : VK} {E : XK} (hs : LSX (fun cls d _ H => E cls d H) t ws) (hp : PSs X bd t) (h : liftSpX d vs H Q E)
    (hd : ∀ us M Qu Xu, d us M Qu Xu → ws { nx := fun _ M' => Fin' M Qu (.d .none) M', rt := Fin' M Qu, ex := fun x _ M' => FinX M Xu x M' } (startR N.length us) M) : ∃ t, PSs X bd t ∧ t { nx := fun _ H' => Q .non H', rt := Q } (L2.start N vs) H :=
  ⟨t, hp, body_okX hs hd h⟩
section
variable {P : Program} {w : World} {K : PySem.W.Frag} {mg : Str → Option Value} {base : Heap}
/-- a def that may let an exception out -/
theorem okGX {x ql : Str} {st : Stmt} {f : Addr} {fd : FuncData} {N ps : List Str} {k : Nat} {sp : Sp} (F : Fun K x ql st f fd) (S : FnScope N ps (defScope st)) (hn : ∀ vs H Q E, sp vs H Q E → vs.length = ps.length)
    (hb : ∀ (cdv : Value) (A : Around) (fr : List PySem.Env) (s : Shared) (H : Hp) (vs : List V) (Q : VK) (E : XK), Calm (A.deeper (envOfC ql (defScope st) s.heap.objs.size f cdv)) → Room k (A.deeper (envOfC ql (defScope st) s.heap.objs.size f cdv)) → sp vs H Q E →
      ∃ t, PSs (cxOf (L2.CX P w) P w K mg base N ql (defScope st) f cdv A fr s H E) (defBody st) t ∧ t { nx := fun _ H' => Q .non H', rt := Q } (start N vs) H) : GnOk P w K mg base (L2.CX P w) (k + 1) f fd ps sp := by
  obtain ⟨v7, a2, v2, v3, v4, a1, v5, v6, sl, rfl, hl, hc⟩ := F.ex
  exact gn_of hl hc S hn fun A fr s H vs Q E cm rm hsp => hb v5 A fr s H vs Q E cm rm hsp
end
section
variable {X : Cx} {CX : CXT} {k : Nat} {f : Addr} {fd : FuncData} {ps : List Str} {sp : Sp} {dvs : List V} {ds : List Value} {Es : L2.St → XK} {x : Str} {p pos : Pos} {e : Expr} {es : List Expr} {t : TA}
/-- a call that may raise, what is wished of the exception may hang on the slots -/
def tCallX (sp : Sp) (dvs : List V) (Es : L2.St → XK) (t : TA) : TE := fun σ H Q => t σ H fun vs H1 => sp (vs ++ dvs) H1 Q (Es σ)
theorem run_gnX {pins : List (Addr × Obj)} {σ : L2.St} {H : Hp} {s : Shared} {Q : VK} {us : List Value} {vs : List V} (F : GnOk X.prog X.w X.K X.mg X.base CX k f fd ps sp) (cm : Calm X.A) (rm : Room k X.A) (hb : Binds X.K fd ps ds) (hd : Vals dvs ds) (hx : ∀ σ, PassesAt CX X σ (Es σ))
    (I : Inv X pins σ H s) (rv : Vals vs us) (h : sp (vs ++ dvs) H Q (Es σ)) : wpAny (model X.prog X.w) X.A (call (.ref f) us) (EP X pins σ Q) X.xe s := by
  have ra := rv.append hd
  have ln : (us ++ ds).length = ps.length := ra.length.symm.trans (F.ln _ _ _ _ h)
  apply wpAny_call
  refine codeAny_mono (F.go X.A X.stack s H ⟨us, []⟩ _ _ Q (Es σ) cm rm I.env0 (hb s us I.kIn ln) ra h) fun r s' z => ?_
  match r, z with
  | .error e, z => exact hx σ pins H s e s' I z
  | .ok (.ret u), z => exact I.after z
  | .ok .next, z => exact z.elim
  | .ok .brk, z => exact z.elim
  | .ok .cont, z => exact z.elim
theorem pe_callX (F : GnOk X.prog X.w X.K X.mg X.base CX k f fd ps sp) (cm : Calm X.A) (rm : Room k X.A) (hg : Gl X x) (hm : X.mg x = some (.ref f)) (hk : PySem.W.keepIn X.K (.ref f) = true) (hb : Binds X.K fd ps ds) (hd : Vals dvs ds) (hx : ∀ σ, PassesAt CX X σ (Es σ))
    (ha : PA X (e :: es) t) (h1 : (x == ("__debug__" : Str)) = false := by decide) (h2 : starEach (e :: es) X.env = (false, eval e X.env) :: starEach es X.env := by rfl) (h3 : (backTo pos (starEach es X.env)).any (·.1) = false := by rfl) :
    PE X (.Call (.Name x p) (e :: es) [] pos) (tCallX sp dvs Es t) := by
  constructor
  intro pins s σ H Q I h
  refine wpAny_Call_Name_kw (ld_glob I hg hm ?_ h1)
  exact PySem.W.callWith_K (h₀ := X.base) I.ok.mod.kin hk (thn (ha.run pos pins s σ H _ I h) fun us s1 ⟨vs, H1, I1, r, q⟩ => ⟨I1.kIn, run_gnX F cm rm hb hd hx I1 r q⟩) h2 h3
end
section
variable {W : WX} {d : DSpX} {dvs : List V} {dv : List PyData} {tr : TA} {wr : WA}
/-- handed data, it hands back data -/
def wCallPX (d : DSpX) (dv : List PyData) (wr : WA) : WEX := fun ρ M Q X => wr ρ M fun us M1 => ∃ ds, dats us = some ds ∧ d ((ds ++ dv).map U.d) [] (fun u Mc => ∃ z, u = .d z ∧ Q (.d z) M1) fun x _ => X x M1
theorem le_callPX (hd : ∀ w : Wd, RUs w (dv.map U.d) dvs) (hr : LA tr wr) : LEX W (tCallX (liftSpX d) dvs (L2.WE W) tr) (wCallPX d dv wr) := fun _ _ _ _ _ _ _ _ h e hq o ox =>
  hr h e hq fun us M1 vs w1 H1 s1 h1 r1 q1 => by
    obtain ⟨ds, e1, q⟩ := q1
    refine ⟨⟨w1.F, []⟩, [], _, _, _, pure_call h1, ?_, q, fun u Mc v w2 H2 s2 h2 r2 q2 => ?_, fun x Mc cls dd w2 H2 s2 h2 r2 q2 => ?_⟩
    · rw [List.map_append]
      exact rus_app (RUs.of (w := ⟨w1.F, []⟩) (show RpL w1.F ds vs from dats_ok r1 e1)) (hd _)
    · obtain ⟨z, rfl, q2⟩ := q2
      obtain ⟨h3, s3⟩ := pure_back h1 s2 h2
      exact (o.trans s1 h1) _ _ _ _ _ s3 h3 (RU.D (show Rp w2.F z v from r2)) q2
    · obtain ⟨h3, s3⟩ := pure_back h1 s2 h2
      exact (ox.trans s1 h1) s3 h3 (r2.mono (w' := ⟨w2.F, w1.th⟩) (Same.refl _)) q2
/-- handed the cells is -/
def wCallCX (is : List Nat) (d : DSpX) (dv : List PyData) (wr : WA) : WEX := fun ρ M Q X => wr ρ M fun us M1 => nodB is = true ∧ allB is M1.length = true ∧ (us.map (rnU (inN is))).map (rnU (outN is M1.length)) = us ∧
  (is.map fun i => rnO (inN is) (M1.getD i .dead)).map (rnO (outN is M1.length)) = (is.map fun i => M1.getD i .dead) ∧
  d (us.map (rnU (inN is)) ++ dv.map U.d) (is.map fun i => rnO (inN is) (M1.getD i .dead)) (fun u Mc => Q (rnU (outN is M1.length) u) (wback M1 is (Mc.map (rnO (outN is M1.length))))) fun x Mc => X x (wback M1 is (Mc.map (rnO (outN is M1.length))))
theorem le_callCX {is : List Nat} (hd : ∀ w : Wd, RUs w (dv.map U.d) dvs) (hr : LA tr wr) : LEX W (tCallX (liftSpX d) dvs (L2.WE W) tr) (wCallCX is d dv wr) := fun _ _ _ _ _ _ _ _ h e hq o ox =>
  hr h e hq fun us M1 vs w1 H1 s1 h1 r1 q1 => by
    obtain ⟨nd', hi', hu, hc, q⟩ := q1
    have nd := nodB_ok nd'
    have hi := allB_ok hi'
    have hl : ∀ i ∈ is, i < w1.th.length := fun i m => by rw [h1.len]; exact hi i m
    refine ⟨_, _, _, _, _, call_into h1 nd hi hc, ?_, q, fun u Mc v w2 H2 s2 h2 r2 q2 => ?_, fun x Mc cls dd w2 H2 s2 h2 r2 q2 => ?_⟩
    · refine rus_app ?_ (hd _)
      rw [← hu] at r1
      exact mapP2 r1 fun a c r => by
        rw [← h1.len] at r
        exact RU.into hl r
    · obtain ⟨t, ew, h3, s3⟩ := call_back h1 nd hi s2 h2
      refine (o.trans s1 h1) _ _ _ _ _ s3 h3 ?_ q2
      rw [ew] at r2
      rw [← h1.len]
      exact RU.back hl r2
    · obtain ⟨t, ew, h3, s3⟩ := call_back h1 nd hi s2 h2
      exact (ox.trans s1 h1) s3 h3 (r2.mono (w' := ⟨w2.F, w1.th ++ t⟩) (Same.refl _)) q2
end
/-! ### raise X(e), X with one field that its __init__ sets -/
def spInit (C : Addr) (f : Str) : Sp := fun vs H Q _ => ∃ (a : Addr) (v : V), vs = [.ref a, v] ∧ H a = some (exo a C none) ∧ ∀ dx, H dx = none → dx ≠ a → Q .non (upd (upd H dx (exd dx [(f, v)])) a (exo a C (some dx)))
theorem init_read {K : PySem.W.Frag} {C : Addr} {f : Str} {m : Str} (T : OexC K C) (nf : PySem.W.findIn K (.ref C) f = some none) {vs : List V} {H : Hp} {Q : VK} {E : XK} {N : List Str} (hN : N.length = 2) (h : spInit C f vs H Q E) :
    tSeq (tDrop (tVeI K (tCons (tVar 0) (tCons (tC (.str m)) tNil)))) (tOst K f (tVar 0) (tVar 1)) { nx := fun _ H' => Q .non H', rt := Q } (L2.start N vs) H := by
  obtain ⟨a, v, rfl, ha, q⟩ := h
  have e0 : (L2.start N [V.ref a, v])[0]? = some (some (.ref a)) := by simp [L2.start]
  have e1 : (L2.start N [V.ref a, v])[1]? = some (some v) := by simp [L2.start]
  refine ⟨_, e0, a, C, [.str m], rfl, by simp, T, ha, ?_⟩
  refine ⟨_, e1, _, e0, a, C, rfl, T, nf, .inl ⟨ha, q⟩⟩
def wRaise (C : Addr) (f : Str) (we : WE) : WS := fun D ρ M => we ρ M fun u M1 => ∃ d, u = .d d ∧ D.ex ⟨C, [(f, d)]⟩ ρ M1
theorem lsx_raise {W : WX} {C : Addr} {f : Str} {te : TE} {we : WE} (he : LE te we) : LSX W (fun _ σ H => tMkO C (spInit C f) [] (tCons te tNil) σ H fun cls d H' => W cls d σ H') (wRaise C f we) := fun w M H σ ρ De E h e hq o ox => by
  refine he h e hq fun u M1 v w1 H1 s1 h1 r1 q1 => ?_
  obtain ⟨dd, rfl, q⟩ := q1
  refine ⟨by simp, fun a ha => ⟨a, v, rfl, upd_same, fun dx hdx ne => ?_⟩⟩
  have hd1 : H1 dx = none := by rw [upd_ne ne] at hdx; exact hdx
  refine ⟨rfl, dx, [(f, v)], upd_same, by rw [upd_ne ne]; exact upd_same, hd1, ?_⟩
  have eH : upd (del (upd (upd (upd H1 a (exo a C none)) dx (exd dx [(f, v)])) a (exo a C (some dx))) a) dx (.xd [(f, v)]) = upd H1 dx (.xd [(f, v)]) := by
    funext b
    by_cases hb : b = dx
    · rw [hb, upd_same, upd_same]
    · rw [upd_ne hb, upd_ne hb]
      by_cases hba : b = a
      · rw [hba, del_same, ha]
      · rw [del_ne hba, upd_ne hba, upd_ne hb, upd_ne hba]
  rw [eH]
  have hF := h1.newF hd1
  refine (ox.trans s1 h1) (Step.put h1 hd1) (h1.put hd1) ((e.grow s1.grow).grow (Grow.put hF)) ⟨rfl, fun g z hz => ?_⟩ q
  have hz' : List.lookup g [(f, dd)] = some z := hz
  rw [List.lookup_cons] at hz'
  by_cases hg : g = f
  · subst hg
    rw [beq_self_eq_true] at hz'
    cases hz'
    exact ⟨dx, _, v, rfl, Wd.putF, by simp [List.lookup], Rp.mono (same_put hF) r1⟩
  · have : (g == f) = false := by simpa using hg
    rw [this] at hz'
    cases hz'
/-! ### try: .. except X as e: .., what the suite knows of e -/
structure Kn (i : Nat) (a : Addr) (cls : Value) (d : Option Addr) (x : XV) (w : Wd) (σ : L2.St) : Prop where
  at_ : σ[i]? = some (some (.ref a))
  rx : RX w x cls d
abbrev WEK := XV → WE
def LEK (i : Nat) (a : Addr) (cls : Value) (d : Option Addr) (te : TE) (we : WEK) : Prop := ∀ ⦃w : Wd⦄ ⦃M : List Ob⦄ ⦃H : Hp⦄ ⦃σ : L2.St⦄ ⦃ρ : Rho⦄ ⦃Qu : U → List Ob → Prop⦄ ⦃Q : VK⦄ ⦃x : XV⦄, Hold w M H → Env w σ ρ → Kn i a cls d x w σ → we x ρ M Qu → Out RU w H Qu Q → te σ H Q
def LTK (i : Nat) (a : Addr) (cls : Value) (d : Option Addr) (te : TT) (we : XV → WT) : Prop := ∀ ⦃w : Wd⦄ ⦃M : List Ob⦄ ⦃H : Hp⦄ ⦃σ : L2.St⦄ ⦃ρ : Rho⦄ ⦃Qu : Bool → List Ob → Prop⦄ ⦃Q : Bool → Hp → Prop⦄ ⦃x : XV⦄, Hold w M H → Env w σ ρ → Kn i a cls d x w σ → we x ρ M Qu → Out RB w H Qu Q → te σ H Q
def LSK (i : Nat) (a : Addr) (cls : Value) (d : Option Addr) (ts : TS) (ws : XV → WS) : Prop := ∀ ⦃w : Wd⦄ ⦃M : List Ob⦄ ⦃H : Hp⦄ ⦃σ : L2.St⦄ ⦃ρ : Rho⦄ ⦃De : DEnds⦄ ⦃E : Ends⦄ ⦃x : XV⦄, Hold w M H → Env w σ ρ → Kn i a cls d x w σ → ws x De ρ M → EndsOk w H De E → ts E σ H
section
variable {i : Nat} {a : Addr} {cls : Value} {d : Option Addr} {te : TE} {we : WEK} {t u : TS} {wt wu : XV → WS} {tt t1 t2 : TT} {wq w1 w2 : XV → WT}
theorem Kn.grow {x : XV} {w w' : Wd} {σ : L2.St} (k : Kn i a cls d x w σ) (g : Grow w w') : Kn i a cls d x w' σ := ⟨k.at_, k.rx.mono g.F⟩
theorem lek_of {we : WE} (he : LE te we) : LEK i a cls d te (fun _ => we) := fun _ _ _ _ _ _ _ _ h e _ q o => he h e q o
theorem ltk_of {wq : WT} (he : LT tt wq) : LTK i a cls d tt (fun _ => wq) := fun _ _ _ _ _ _ _ _ h e _ q o => he h e q o
theorem lsk_of {ws : WS} (hs : LS t ws) : LSK i a cls d t (fun _ => ws) := fun _ _ _ _ _ _ _ _ h e _ q o => hs h e q o
theorem lsk_ret (he : LEK i a cls d te we) : LSK i a cls d (tRet te) (fun x => wRet (we x)) := fun _ _ _ _ _ _ _ _ h e k hq o => he h e k hq o.rt
theorem lsk_if (hq : LTK i a cls d tt wq) (ht : LSK i a cls d t wt) (hu : LSK i a cls d u wu) : LSK i a cls d (tIfS tt t u) (fun x => wIfS (wq x) (wt x) (wu x)) := fun _ _ _ _ _ _ _ _ h e k q o =>
  hq h e k q fun b _ c _ _ s1 h1 r1 q1 => by
    have r : b = c := r1
    subst r
    cases b with
    | true => exact ht h1 (e.grow s1.grow) (k.grow s1.grow) q1 (o.trans s1 h1)
    | false => exact hu h1 (e.grow s1.grow) (k.grow s1.grow) q1 (o.trans s1 h1)
/-- a suite's if, its branch left by return, and what follows -/
theorem lsk_ifRet (hq : LTK i a cls d tt wq) (ht : LSK i a cls d t wt) (hu : LSK i a cls d u wu) : LSK i a cls d (tSeq (tIfS tt t tNext) u) (fun x => wSeq (wIfS (wq x) (fun D ρ M => ∃ R, wt x { D with nx := fun _ _ => False, rt := R } ρ M ∧ ∀ y M', R y M' → D.rt y M') wNext) (wu x)) := fun w M H σ ρ De E x h e k q o =>
  hq h e k q fun b _ c _ _ s1 h1 r1 q1 => by
    have r : b = c := r1
    subst r
    cases b with
    | true =>
      obtain ⟨R, q2, q3⟩ := q1
      exact ht h1 (e.grow s1.grow) (k.grow s1.grow) q2 ⟨fun _ _ _ _ _ _ _ _ z => z.elim, fun y M' v w' H' s' h' r' q' => o.rt y M' v w' H' (s1.trans h1 s') h' r' (q3 y M' q'), o.bk.trans s1 h1, o.ct.trans s1 h1⟩
    | false => exact hu h1 (e.grow s1.grow) (k.grow s1.grow) q1 (o.trans s1 h1)
def wXf (C : Addr) (f : Str) : WEK := fun x ρ M Q => x.C = C ∧ ∃ v, x.fs.lookup f = some v ∧ Q (.d v) M
theorem lek_xf {C : Addr} {f : Str} : LEK i a cls d (tXf a cls d C f (tVar i)) (wXf C f) := fun w M H σ ρ Qu Q x h e k hq o => by
  obtain ⟨rfl, v, hv, q⟩ := hq
  obtain ⟨dd, gs, u, e1, e2, e3, e4⟩ := k.rx.2 f v hv
  exact ⟨_, k.at_, rfl, k.rx.1, dd, gs, u, e1, h.sub _ _ e2, e3, o.here h (RU.D e4) q⟩
theorem ltk_or (ha : LTK i a cls d t1 w1) (hb : LTK i a cls d t2 w2) : LTK i a cls d (tOr t1 t2) (fun x => wOr (w1 x) (w2 x)) := fun _ _ _ _ _ _ _ _ h e k hq o =>
  ha h e k hq fun b _ c _ _ s1 h1 r1 q1 => by
    have r : b = c := r1
    subst r
    cases b with
    | false => exact hb h1 (e.grow s1.grow) (k.grow s1.grow) q1 (o.trans s1 h1)
    | true => exact (o.trans s1 h1).here h1 rfl q1
theorem ltk_and (ha : LTK i a cls d t1 w1) (hb : LTK i a cls d t2 w2) : LTK i a cls d (tAnd t1 t2) (fun x => wAnd (w1 x) (w2 x)) := fun _ _ _ _ _ _ _ _ h e k hq o =>
  ha h e k hq fun b _ c _ _ s1 h1 r1 q1 => by
    have r : b = c := r1
    subst r
    cases b with
    | true => exact hb h1 (e.grow s1.grow) (k.grow s1.grow) q1 (o.trans s1 h1)
    | false => exact (o.trans s1 h1).here h1 rfl q1
theorem ltk_not (ha : LTK i a cls d t1 w1) : LTK i a cls d (tNot t1) (fun x => wNot (w1 x)) := fun _ _ _ _ _ _ _ _ h e k hq o =>
  ha h e k hq fun b _ c _ _ s1 h1 r1 q1 => by
    have r : b = c := r1
    subst r
    exact (o.trans s1 h1).here h1 rfl q1
theorem ltk_B (he : LEK i a cls d te we) : LTK i a cls d (tB te) (fun x => wB (we x)) := fun _ _ _ _ _ _ _ _ h e k hq o =>
  he h e k hq fun _ _ _ _ _ s1 h1 r1 q1 => by
    obtain ⟨b, rfl, q⟩ := q1
    cases r1
    exact ⟨b, rfl, (o.trans s1 h1).here h1 rfl q⟩
end
theorem Env.hide {w : Wd} {σ : L2.St} {ρ : Rho} (e : Env w σ ρ) (i : Nat) (y : Option V) : Env w (σ.set i y) (ρ.set i none) := by
  refine ⟨by rw [List.length_set, List.length_set]; exact e.len, fun j x h => ?_⟩
  by_cases hj : j = i
  · subst hj
    have hl : j < ρ.length := by
      have := (List.getElem?_eq_some_iff.mp h).1
      rw [List.length_set] at this; exact this
    rw [List.getElem?_set_self hl] at h
    cases h
  · rw [List.getElem?_set_ne (fun q => hj q.symm)] at h
    rw [List.getElem?_set_ne (fun q => hj q.symm)]
    exact e.at_ j x h
def wTryAs (C : Addr) (i : Nat) (wb : WS) (wsu : XV → WS) : WS := fun D ρ M => wb { D with ex := fun x ρ' M' => x.C = C ∧ i < ρ'.length ∧ wsu x { D with nx := fun ρ2 M2 => D.nx (ρ2.set i none) M2, bk := fun ρ2 M2 => D.bk (ρ2.set i none) M2, ct := fun ρ2 M2 => D.ct (ρ2.set i none) M2 } (ρ'.set i none) M' } ρ M
theorem ls_tryAs {K : PySem.W.Frag} {C : Addr} {i : Nat} {tb : WX → TS} {wb : WS} {ts : Addr → Value → Option Addr → TS} {wsu : XV → WS} {Wout : WX} (te : PySem.W.exmOne K (.ref C) (.ref C) = some true) (hb : ∀ W, LSX W (tb W) wb) (hs : ∀ a cls d, LSK i a cls d (ts a cls d) wsu) :
    LS (fun D σ H => tb (wAs K (.ref C) i ts Wout D) D σ H) (wTryAs C i wb wsu) := fun w M H σ ρ De E h e hq o => by
  refine hb _ h e hq ⟨o.nx, o.rt, o.bk, o.ct⟩ fun x ρ' M' cls d σ' w' H' s' h' e' rx hx => ?_
  obtain ⟨hC, hi, q⟩ := hx
  obtain ⟨ec, _⟩ := id rx
  subst hC
  refine ⟨true, by rw [ec]; exact te, fun _ a na => ?_, fun z => nomatch z⟩
  have hl : i < σ'.length := by rw [e'.len]; exact hi
  exact hs a cls d h' (e'.hide i _) ⟨List.getElem?_set_self hl, rx⟩ q ⟨fun ρ2 M2 σ2 w2 H2 s2 h2 e2 q2 => o.nx _ _ _ _ _ (s'.trans h' s2) h2 (e2.unset i) q2, o.rt.trans s' h', fun ρ2 M2 σ2 w2 H2 s2 h2 e2 q2 => o.bk _ _ _ _ _ (s'.trans h' s2) h2 (e2.unset i) q2, fun ρ2 M2 σ2 w2 H2 s2 h2 e2 q2 => o.ct _ _ _ _ _ (s'.trans h' s2) h2 (e2.unset i) q2⟩
/-- except X: without a name -/
def wTryOnly (C : Addr) (wb wsu : WS) : WS := fun D ρ M => wb { D with ex := fun x ρ' M' => x.C = C ∧ wsu D ρ' M' } ρ M
theorem ls_tryOnly {K : PySem.W.Frag} {C : Addr} {tb : WX → TS} {wb : WS} {ts : Addr → Value → Option Addr → TS} {wsu : WS} {Wout : WX} (te : PySem.W.exmOne K (.ref C) (.ref C) = some true) (hb : ∀ W, LSX W (tb W) wb) (hs : ∀ a cls d, LS (ts a cls d) wsu) :
    LS (fun D σ H => tb (wOnly K (.ref C) ts Wout D) D σ H) (wTryOnly C wb wsu) := fun w M H σ ρ De E h e hq o => by
  refine hb _ h e hq ⟨o.nx, o.rt, o.bk, o.ct⟩ fun x ρ' M' cls d σ' w' H' s' h' e' rx hx => ?_
  obtain ⟨hC, q⟩ := hx
  obtain ⟨ec, _⟩ := id rx
  subst hC
  exact ⟨true, by rw [ec]; exact te, fun _ a na => hs a cls d h' e' q (o.trans s' h'), fun z => nomatch z⟩
theorem exm_own {K : PySem.W.Frag} {S : Addr} (h1 : PySem.W.subIn K (.ref S) (.type "BaseException") = some true) (h2 : PySem.W.hasDictIn K S = true) (h3 : PySem.W.typeIn K (.ref S) = some (.type "type")) (h4 : PySem.W.subIn K (.ref S) (.ref S) = some true) : PySem.W.exmOne K (.ref S) (.ref S) = some true := PySem.W.exm_ref h1 h2 h3 h4
end DL

/-! ### isinstance of the exception that a suite holds -/
namespace DL
open PySem L2 PySem.Spec PyProof.Rows
/-- what the class of a caught exception must say -/
structure XcC (K : PySem.W.Frag) (C : Addr) : Prop where
  cl : (PySem.W.clsIn K C).isSome = true
  ga : PySem.W.findIn K (.ref C) "__getattribute__" = some (some (.builtin "BaseException.__getattribute__"))
  gg : PySem.W.findIn K (.ref C) "__getattr__" = some none
  sb : PySem.W.subIn K (.ref C) (.type "BaseException") = some true
  ha : PySem.W.findIn K (.ref C) "__class__" = some (some (.builtin "object.__class__"))
  hn : PySem.W.specialIn K (.builtin "object.__class__") "__get__" = some (some (.builtin "getset_descriptor.__get__"))
  ht : PySem.W.takesIn K (.builtin "object.__class__") = some true
  hm : PySem.W.mroIn K C (.type "object") = some true
section
variable {X : Cx} {a C : Addr} {oe : Obj} {cls : Value} {d : Option Addr} {pn : List (Addr × Obj)}
def rIsX (K : PySem.W.Frag) (C a : Addr) (cls : Value) (d : Option Addr) : List V → Hp → VK → Prop := fun xs H Q => ∃ (c : V) (u : Value) (b : Bool), xs = [.ref a, c] ∧ ClsV c u ∧ cls = .ref C ∧ (∃ dd gs, d = some dd ∧ H dd = some (.xd gs)) ∧ PySem.W.kitOne K (.ref C) u = some b ∧ Q (.bl b) H
def rIsXT (K : PySem.W.Frag) (C a : Addr) (cls : Value) (d : Option Addr) : List V → Hp → VK → Prop := fun xs H Q => ∃ (tp : Addr) (cs : List V) (us : List Value) (b : Bool), xs = [.ref a, .ref tp] ∧ H tp = some (.tup cs) ∧ Paired ClsV cs us ∧ cls = .ref C ∧ (∃ dd gs, d = some dd ∧ H dd = some (.xd gs)) ∧ PySem.W.kitAny K (.ref C) us = some b ∧ Q (.bl b) H
theorem inst_xd {pins : List (Addr × Obj)} {σ : L2.St} {H : Hp} {s : Shared} {dd : Addr} {gs : List (Str × V)} (I : Inv (X.suite a ((a, oe) :: pn)) pins σ H s) (hz : Zc (.ref C) (some dd) oe) (hf : ∃ vs, oe.data = .fields vs) (hd : H dd = some (.xd gs)) : ∃ od, PySem.W.InstAt s.heap a oe C (some od) := by
  obtain ⟨hget, _⟩ := I.pin (a, oe) (List.mem_append.mpr (.inl List.mem_cons_self))
  obtain ⟨vs, hv⟩ := hf
  have hx : ObjOk X.prog X.w H s.heap dd (.xd gs) := I.hok dd _ hd
  obtain ⟨mA, hns, hr⟩ := hx
  obtain ⟨od, ho, hl⟩ := lookIn_ns hns
  exact ⟨od, hget, hz.1, by unfold PySem.W.notCls; rw [hv] <;> rfl, by rw [hz.2]; exact ho⟩
theorem call_isX {K : PySem.W.Frag} (hK : X.K = K) (T : XcC K C) (hz : Zc cls d oe) (hf : ∃ vs, oe.data = .fields vs) : CallR (X.suite a ((a, oe) :: pn)) (.builtin "isinstance") (rIsX K C a cls d) := by
  subst hK
  intro pins s σ H xs us Q I r h
  obtain ⟨c, u, b, rfl, k, rfl, ⟨dd, gs, rfl, hd⟩, e, q⟩ := h
  obtain ⟨u1, u2, rfl, r1, r2⟩ := vals2 r
  cases (show u1 = Value.ref a from r1)
  have e2 := k.eq r2
  subst e2
  obtain ⟨od, J⟩ := inst_xd I hz hf hd
  exact PySem.W.kia_one (PySem.W.kitx_exc T.cl T.ga T.gg T.sb T.ha T.hn T.ht T.hm) I.kIn J e (fun z => nomatch z) fun tk => ⟨.bl b, H, I.tok tk, rfl, q⟩
theorem call_isXT {K : PySem.W.Frag} (hK : X.K = K) (T : XcC K C) (hz : Zc cls d oe) (hf : ∃ vs, oe.data = .fields vs) : CallR (X.suite a ((a, oe) :: pn)) (.builtin "isinstance") (rIsXT K C a cls d) := by
  subst hK
  intro pins s σ H xs us Q I r h
  obtain ⟨tp, cs, ws, b, rfl, hT, k, rfl, ⟨dd, gs, rfl, hd⟩, e, q⟩ := h
  obtain ⟨u1, u2, rfl, r1, r2⟩ := vals2 r
  cases (show u1 = Value.ref a from r1)
  cases (show u2 = Value.ref tp from r2)
  obtain ⟨_, its, rv, o, h1, h2, n, h3⟩ := (show ObjOk X.prog X.w H s.heap tp (.tup cs) from I.hok tp _ hT)
  have e3 := ClsV.all k rv
  subst e3
  obtain ⟨oc, od0, dt, sl⟩ := o
  simp only at h2 h3
  subst h2 h3
  obtain ⟨od, J⟩ := inst_xd I hz hf hd
  exact PySem.W.kia_tup (PySem.W.kitx_exc T.cl T.ga T.gg T.sb T.ha T.hn T.ht T.hm) I.kIn J h1 e (fun z => nomatch z) fun tk => ⟨.bl b, H, I.tok tk, rfl, q⟩
end
def wIsX (C : Addr) (b : Bool) : WEK := fun x ρ M Q => x.C = C ∧ (∃ f v, x.fs.lookup f = some v) ∧ Q (.d (.bool b)) M
theorem lek_isX {K : PySem.W.Frag} {i : Nat} {a C : Addr} {cls : Value} {d : Option Addr} {c : V} {u : Value} {b : Bool} (k : ClsV c u) (e : PySem.W.kitOne K (.ref C) u = some b) : LEK i a cls d (tCB (rIsX K C a cls d) (tCons (tVar i) (tCons (tC c) tNil))) (wIsX C b) := fun w M H σ ρ Qu Q x h ev kn hq o => by
  obtain ⟨rfl, ⟨f, v, hf⟩, q⟩ := hq
  obtain ⟨dd, gs, _, e1, e2, _⟩ := kn.rx.2 f v hf
  exact ⟨_, kn.at_, c, u, b, rfl, k, kn.rx.1, ⟨dd, gs, e1, h.sub _ _ e2⟩, e, o.here h (RU.D (.bl _)) q⟩
/-- the classes of a written tuple -/
inductive ClsA : TA → List V → Prop where
  | nil : ClsA tNil []
  | cons {c : V} {t : TA} {cs : List V} : ClsA t cs → ClsA (tCons (tC c) t) (c :: cs)
theorem clsA_run {t : TA} {cs : List V} (k : ClsA t cs) : ∀ {σ : L2.St} {H : Hp} {Q : List V → Hp → Prop}, Q cs H → t σ H Q := by
  induction k with
  | nil => intro σ H Q q; exact q
  | cons _ ih => intro σ H Q q; exact ih q
theorem lek_isXT {K : PySem.W.Frag} {i : Nat} {a C : Addr} {cls : Value} {d : Option Addr} {t : TA} {cs : List V} {us : List Value} {b : Bool} (ka : ClsA t cs) (hl : cs.length ≤ 100) (k : Paired ClsV cs us) (e : PySem.W.kitAny K (.ref C) us = some b) : LEK i a cls d (tCB (rIsXT K C a cls d) (tCons (tVar i) (tCons (tTup t) tNil))) (wIsX C b) := fun w M H σ ρ Qu Q x h ev kn hq o => by
  obtain ⟨rfl, ⟨f, v, hf⟩, q⟩ := hq
  obtain ⟨dd, gs, _, e1, e2, _⟩ := kn.rx.2 f v hf
  refine ⟨_, kn.at_, clsA_run ka ⟨by rw [sizeLine_eq]; omega, fun p hp => ?_⟩⟩
  have ne : dd ≠ p := ne_of_none (h.sub _ _ e2) hp
  refine ⟨p, cs, us, b, rfl, upd_same, k, kn.rx.1, ⟨dd, gs, e1, by rw [upd_ne ne]; exact h.sub _ _ e2⟩, e, ?_⟩
  exact o _ _ _ _ _ ((Step.refl w H).prv hp) (h.prv (h.newF hp) (h.off hp)) (RU.D (.bl _)) q
end DL


set_option Elab.async false
set_option linter.all false
set_option maxRecDepth 100000
set_option maxHeartbeats 8000000
set_option autoImplicit false
namespace K71
open PySem L2 DL
def top (i : Nat) : Stmt := PySem.Challenge.pw_coverrows_k71_webs_written.main.body.getD i (.Pass ⟨0, 0, 0, 0⟩)
structure Bln (mg : Str → Option Value) : Prop where
  abs_ : mg "abs" = none
  len_ : mg "len" = none
  max_ : mg "max" = none
  min_ : mg "min" = none
  int_ : mg "int" = none
  list_ : mg "list" = none
  tuple_ : mg "tuple" = none
  range_ : mg "range" = none
  isinstance_ : mg "isinstance" = none
  all_ : mg "all" = none
  any_ : mg "any" = none
  str_ : mg "str" = none
  set_ : mg "set" = none
  enumerate_ : mg "enumerate" = none
  bool_ : mg "bool" = none
abbrev wr_DEEDS : List Str := ["put", "set"]
abbrev wr_KIDS : List (Str × Int) := [("num", 0), ("var", 0), ("load", 1), ("neg", 1), ("not", 1), ("add", 2), ("sub", 2), ("mul", 2), ("and", 2), ("or", 2), ("xor", 2), ("put", 2), ("set", 1)]
abbrev wr_MARKS : List (Str × Str) := [("num", "word"), ("var", "name"), ("set", "name")]
structure Gln (w : World) (K : PySem.W.Frag) (mg : Str → Option Value) : Prop where
  BETWEEN : ∃ t, mg "BETWEEN" = some (.str "; " t)
  DEEDS : ∃ a, mg "DEEDS" = some (.ref a) ∧ WrT K a wr_DEEDS
  FIGURES : ∃ t, mg "FIGURES" = some (.str "0123456789" t)
  KIDS : ∃ a, mg "KIDS" = some (.ref a) ∧ WrD K w a wr_KIDS
  LEAST_NODES : ∃ t, mg "LEAST_NODES" = some (.int 2 t)
  LETTERS : ∃ t, mg "LETTERS" = some (.str "abcdefghijklmnopqrstuvwxyz" t)
  MARKS : ∃ a, mg "MARKS" = some (.ref a) ∧ WrDs K w a wr_MARKS
  MOST_FIGURES : ∃ t, mg "MOST_FIGURES" = some (.int 5 t)
  MOST_LETTERS : ∃ t, mg "MOST_LETTERS" = some (.int 8 t)
  MOST_LINES : ∃ t, mg "MOST_LINES" = some (.int 20 t)
  MOST_NODES : ∃ t, mg "MOST_NODES" = some (.int 40 t)
  MOST_WORD : ∃ t, mg "MOST_WORD" = some (.int 65535 t)
theorem len_ok {n : Nat} (h : Nat.ble n sizeLine = true) : n ≤ sizeLine := Nat.le_of_ble_eq_true h
theorem len_lt {n : Nat} (h : Nat.ble (n + 1) sizeLine = true) : n < sizeLine := Nat.le_of_ble_eq_true h
theorem lt_1k {n : Nat} (h : Nat.ble (n + 1) 1000 = true) : n < 1000 := Nat.le_of_ble_eq_true h
theorem ix_l {ds : List PyData} {i : Int} {d : PyData} (h : atI ds i = some d) : ixD (.list ds) i d := h
theorem ix_t {ds : List PyData} {i : Int} {d : PyData} (h : atI ds i = some d) : ixD (.tuple ds) i d := h
theorem at0 {α : Type} {x : α} {xs : List α} : atI (x :: xs) 0 = some x := by
  unfold atI ixN
  rw [if_pos (by decide), if_pos (by simp only [List.length_cons]; omega)]; rfl
theorem at1 {α : Type} {x y : α} {xs : List α} : atI (x :: y :: xs) 1 = some y := by
  unfold atI ixN
  rw [if_pos (by decide), if_pos (by simp only [List.length_cons]; omega)]; rfl
theorem at2 {α : Type} {x y z : α} {xs : List α} : atI (x :: y :: z :: xs) 2 = some z := by
  unfold atI ixN
  rw [if_pos (by decide), if_pos (by simp only [List.length_cons]; omega)]; rfl
local macro_rules | `(tactic| walk_at "go") => `(tactic| repeat (first
  | refine ⟨_, rfl, ?_⟩
  | refine ⟨_, _, _, _, rfl, rfl, rfl, True.intro, ?_⟩
  | refine ⟨_, _, _, _, rfl, rfl, rfl, Or.inl rfl, ?_⟩
  | refine ⟨_, _, _, rfl, rfl, True.intro, ?_⟩
  | refine ⟨_, _, _, rfl, rfl, rfl, True.intro, ?_⟩
  | refine ⟨_, _, rfl, rfl, True.intro, ?_⟩
  | refine ⟨_, _, _, _, rfl, rfl, True.intro, ?_⟩
  | refine ⟨_, _, _, _, rfl, rfl, rfl, len_ok rfl, ?_⟩
  | refine ⟨len_ok rfl, ?_⟩
  | refine ⟨len_lt rfl, ?_⟩
  | refine ⟨lt_1k rfl, ?_⟩
  | refine ⟨True.intro, ?_⟩
  | refine ⟨_, _, _, rfl, rfl, ix_l rfl, ?_⟩
  | refine ⟨_, _, _, rfl, rfl, ix_t rfl, ?_⟩
  | refine ⟨_, _, _, rfl, rfl, ix_t at0, ?_⟩
  | refine ⟨_, _, _, rfl, rfl, ix_l at0, ?_⟩
  | refine ⟨rfl, rfl, rfl, rfl, ?_⟩
  | refine ⟨_, _, rfl, rfl, ?_⟩
  | refine ⟨_, rfl, rfl, ?_⟩
  | refine ⟨_, _, Or.inr rfl, ?_⟩
  | refine ⟨_, _, Or.inl rfl, ?_⟩
  | refine ⟨_, _, rfl, ?_⟩
  | refine ⟨rfl, ?_⟩
  | refine ⟨_, _, _, rfl, rfl, rfl, ?_⟩
  | refine wiT ?_
  | refine wiF ?_))
/-- a loop that is only left at its end: what follows is a variable, so that terms stay small -/
theorem wLoop_recO {G : List Ob → Prop} {wg : WG} {wb : WS} {De : DEnds} (I : List U → Rho → List Ob → Prop) (h0 : ∀ ρ M, I [] ρ M → G M ∧ De.nx ρ M)
    (h1 : ∀ (N : Rho → List Ob → Prop) (R : U → List Ob → Prop) (B : Rho → List Ob → Prop) u us, (∀ ρ M, I us ρ M → N ρ M) → ∀ ρ M, I (u :: us) ρ M → G M ∧ wg u ρ M fun ρ1 M1 => wb ⟨N, R, B, N, De.ex⟩ ρ1 M1) :
    ∀ us ρ M, I us ρ M → wLoop G wg wb De us ρ M := wLoop_rec I h0 fun u us ih ρ M h => h1 _ _ _ u us ih ρ M h
theorem eqv_b1 (b : Bool) : PyData.eqv (.bool b) (.bool b) = true := by cases b <;> rfl
theorem cut1 {α : Type} (x : α) (xs : List α) : cutD (x :: xs) (some 1) none = xs := by
  unfold cutD
  rw [show HT.sIx (x :: xs).length 0 (some 1) = min 1 (x :: xs).length from HT.sIx_nat _ 0 1, HT.sIx_none]
  rw [show min 1 (x :: xs).length = 1 by rw [List.length_cons]; omega]
  simp

def bagO (g h : Int) : Ob := .lst [.int g, .int h]
def bagOk (g h : Int) : Prop := 0 ≤ g ∧ 0 ≤ h ∧ h < 2147483647
def primesL : List Int := [2147483629, 2147483587, 2147483579, 2147483563, 2147483549, 2147483543, 2147483497, 2147483489]
theorem prime_at (i : Int) (h0 : 0 ≤ i) (h8 : i < 8) : ∃ p : Int, atI ([.int 2147483629, .int 2147483587, .int 2147483579, .int 2147483563, .int 2147483549, .int 2147483543, .int 2147483497, .int 2147483489] : List PyData) i = some (.int p) ∧ 0 < p ∧ p < 2147483647 := by
  have h : i = 0 ∨ i = 1 ∨ i = 2 ∨ i = 3 ∨ i = 4 ∨ i = 5 ∨ i = 6 ∨ i = 7 := by omega
  rcases h with rfl | rfl | rfl | rfl | rfl | rfl | rfl | rfl <;> exact ⟨_, rfl, by decide, by decide⟩
theorem word_at (i : Int) (h0 : 0 ≤ i) (h8 : i < 8) : ∃ p : Int, atI ([.int 0, .int 1, .int 2, .int 63, .int 64, .int 65535, .int 65534, .int 32768] : List PyData) i = some (.int p) ∧ 0 ≤ p ∧ p < 65536 := by
  have h : i = 0 ∨ i = 1 ∨ i = 2 ∨ i = 3 ∨ i = 4 ∨ i = 5 ∨ i = 6 ∨ i = 7 := by omega
  rcases h with rfl | rfl | rfl | rfl | rfl | rfl | rfl | rfl <;> exact ⟨_, rfl, by decide, by decide⟩
theorem sizes_at (i : Int) (h0 : 0 ≤ i) (h5 : i < 5) : ∃ m : Nat, atI ([.int 6, .int 1, .int 20, .int 3, .int 11] : List PyData) i = some (.int (m : Int)) ∧ 1 ≤ m ∧ m ≤ 20 := by
  have h : i = 0 ∨ i = 1 ∨ i = 2 ∨ i = 3 ∨ i = 4 := by omega
  rcases h with rfl | rfl | rfl | rfl | rfl
  · exact ⟨6, rfl, by decide, by decide⟩
  · exact ⟨1, rfl, by decide, by decide⟩
  · exact ⟨20, rfl, by decide, by decide⟩
  · exact ⟨3, rfl, by decide, by decide⟩
  · exact ⟨11, rfl, by decide, by decide⟩
theorem intsU_succ (i : Int) (n : Nat) : intsU i (n + 1) = U.d (.int i) :: intsU (i + 1) n := by
  unfold intsU
  rw [List.range_succ_eq_map, List.map_cons, List.map_map]
  congr 1
  · simp
  · apply List.map_congr_left
    intro j _
    simp
    omega
inductive Pat where
  | kind (k : Str) | num | is_ (w : Int) | lss (w : Int) | var | op (o : Str) (ps : List Pat)
mutual
def Pat.enc : Pat → PyData
  | .kind k => .str k
  | .num => .tuple [.str "num"]
  | .is_ w => .tuple [.str "num", .str "is", .int w]
  | .lss w => .tuple [.str "num", .str "below", .int w]
  | .var => .tuple [.str "var"]
  | .op o ps => .tuple (.str o :: Pat.encs ps)
def Pat.encs : List Pat → List PyData
  | [] => []
  | p :: ps => p.enc :: Pat.encs ps
end
mutual
def Pat.depth : Pat → Nat
  | .op _ ps => Pat.depths ps + 1
  | _ => 1
def Pat.depths : List Pat → Nat
  | [] => 0
  | p :: ps => max p.depth (Pat.depths ps)
end
mutual
def Pat.size : Pat → Nat
  | .op _ ps => Pat.sizes ps + 1
  | _ => 1
def Pat.sizes : List Pat → Nat
  | [] => 0
  | p :: ps => p.size + Pat.sizes ps
end
mutual
def Pat.ok : Pat → Prop
  | .op o ps => o ≠ "num" ∧ Pat.oks ps
  | _ => True
def Pat.oks : List Pat → Prop
  | [] => True
  | p :: ps => p.ok ∧ Pat.oks ps
end
structure Nd where
  op : Str
  mark : PyData
  kids : List Nat
def encKids (ks : List Nat) : List PyData := ks.map fun (k : Nat) => PyData.int (k : Int)
def Nd.enc (n : Nd) : PyData := .tuple [.str n.op, n.mark, .tuple (encKids n.kids)]
def encWeb (web : List Nd) : PyData := .list (web.map Nd.enc)
def markI (n : Nd) : Int := match n.mark with
  | .int w => w
  | _ => 0
structure NdOk (l : Nat) (n : Nd) : Prop where
  mark : n.mark = .none ∨ (∃ w, n.mark = .int w) ∨ ∃ x, n.mark = .str x
  num : n.op = "num" → (∃ w, n.mark = .int w) ∧ n.kids = []
  var : n.op = "var" → n.kids = []
  kids : ∀ k ∈ n.kids, k < l
def WebOk (web : List Nd) : Prop := ∀ n ∈ web, NdOk web.length n
def isFit : Pat → Nd → Bool
  | .kind _, _ => false
  | .num, n => decide (n.op = "num")
  | .is_ w, n => decide (n.op = "num") && decide (markI n = w)
  | .lss w, n => decide (n.op = "num") && decide (markI n < w)
  | .var, n => decide (n.op = "var")
  | .op o _, n => decide (n.op = o)
def marks0 (n : Nd) : List PyData := match n.mark with
  | .none => []
  | m => [m]
abbrev Fit := Option (List (Nat × Str) × List PyData)
def leafFit (web : List Nd) (p : Pat) (a : Nat) : Fit := match web[a]? with
  | none => none
  | some n => if isFit p n = true then some ([], marks0 n) else none
mutual
def fit (web : List Nd) : Pat → Nat → Fit
  | .kind k, a => some ([(a, k)], [])
  | .op o ps, a => match web[a]? with
    | none => none
    | some n => if n.op = o then (match fitAll web ps n.kids with
      | none => none
      | some (ns, ms) => some (ns, marks0 n ++ ms)) else none
  | .num, a => leafFit web .num a
  | .is_ w, a => leafFit web (.is_ w) a
  | .lss w, a => leafFit web (.lss w) a
  | .var, a => leafFit web .var a
def fitAll (web : List Nd) : List Pat → List Nat → Fit
  | p :: ps, k :: ks => match fit web p k with
    | none => none
    | some (n1, m1) => match fitAll web ps ks with
      | none => none
      | some (n2, m2) => some (n1 ++ n2, m1 ++ m2)
  | _, _ => some ([], [])
end
def encNeed (x : Nat × Str) : PyData := .tuple [.int (x.1 : Int), .str x.2]
def encFit : Fit → PyData
  | none => .none
  | some (ns, ms) => .tuple [.list (ns.map encNeed), .list ms]
theorem marks0_len (n : Nd) : (marks0 n).length ≤ 1 := by unfold marks0; split <;> simp
mutual
theorem fit_size (web : List Nd) : ∀ (p : Pat) (a : Nat) (ns : List (Nat × Str)) (ms : List PyData), fit web p a = some (ns, ms) → ns.length ≤ p.size ∧ ms.length ≤ p.size
  | .kind k, a, ns, ms, h => by simp [fit] at h; obtain ⟨rfl, rfl⟩ := h; simp [Pat.size]
  | .op o ps, a, ns, ms, h => by
    unfold fit at h
    split at h
    · cases h
    · rename_i n _
      split at h
      · split at h
        · cases h
        · rename_i n2 m2 e
          obtain ⟨h1, h2⟩ := fitAll_size web ps n.kids n2 m2 e
          cases h
          have := marks0_len n
          simp only [Pat.size, List.length_append]
          omega
      · cases h
  | .num, a, ns, ms, h => leaf_size web .num a ns ms (by unfold fit at h; exact h)
  | .is_ w, a, ns, ms, h => leaf_size web (.is_ w) a ns ms (by unfold fit at h; exact h)
  | .lss w, a, ns, ms, h => leaf_size web (.lss w) a ns ms (by unfold fit at h; exact h)
  | .var, a, ns, ms, h => leaf_size web .var a ns ms (by unfold fit at h; exact h)
theorem leaf_size (web : List Nd) (p : Pat) (a : Nat) (ns : List (Nat × Str)) (ms : List PyData) (h : leafFit web p a = some (ns, ms)) : ns.length ≤ p.size ∧ ms.length ≤ p.size := by
  have hp : 1 ≤ p.size := by cases p <;> simp [Pat.size]
  unfold leafFit at h
  split at h
  · cases h
  · rename_i n _
    split at h
    · cases h
      have := marks0_len n
      exact ⟨Nat.zero_le _, by omega⟩
    · cases h
theorem fitAll_size (web : List Nd) : ∀ (ps : List Pat) (ks : List Nat) (ns : List (Nat × Str)) (ms : List PyData), fitAll web ps ks = some (ns, ms) → ns.length ≤ Pat.sizes ps ∧ ms.length ≤ Pat.sizes ps
  | [], ks, ns, ms, h => by simp [fitAll] at h; obtain ⟨rfl, rfl⟩ := h; simp
  | p :: ps, [], ns, ms, h => by simp [fitAll] at h; obtain ⟨rfl, rfl⟩ := h; simp
  | p :: ps, k :: ks, ns, ms, h => by
    unfold fitAll at h
    split at h
    · cases h
    · rename_i n1 m1 e1
      obtain ⟨a1, a2⟩ := fit_size web p k n1 m1 e1
      split at h
      · cases h
      · rename_i n2 m2 e2
        obtain ⟨b1, b2⟩ := fitAll_size web ps ks n2 m2 e2
        cases h
        simp only [Pat.sizes, List.length_append]
        omega
end
theorem sizes_len (ps : List Pat) : ps.length ≤ Pat.sizes ps := by
  induction ps with
  | nil => simp
  | cons p ps ih =>
    have : 1 ≤ p.size := by cases p <;> simp [Pat.size]
    simp only [List.length_cons, Pat.sizes]; omega
theorem all_mem {ps : List Pat} {p : Pat} (h : p ∈ ps) : p.depth ≤ Pat.depths ps ∧ p.size ≤ Pat.sizes ps ∧ (Pat.oks ps → p.ok) := by
  induction ps with
  | nil => cases h
  | cons q ps ih =>
    simp only [Pat.depths, Pat.sizes, Pat.oks]
    rcases List.mem_cons.mp h with rfl | h
    · exact ⟨by omega, by omega, fun h => h.1⟩
    · obtain ⟨a, b, c⟩ := ih h
      exact ⟨by omega, by omega, fun h => c h.2⟩
def sp_bag (K : PySem.W.Frag) : DSp := fun us M Q => ∃ (ns : List Int) (at_ : Int), us = [.s K ns, .d (.int at_)] ∧ M = [] ∧ ns.length ≤ 63 ∧ 0 ≤ at_ ∧ at_ ≤ 1000 ∧ ∀ g h, bagOk g h → Q (.p 0) [bagO g h]
def sp_take : DSp := fun us M Q => ∃ g h n : Int, us = [.p 0, .d (.int n)] ∧ M = [bagO g h] ∧ bagOk g h ∧ 0 < n ∧ n ≤ 2147483647 ∧ ∀ r g' h', 0 ≤ r → r < n → bagOk g' h' → Q (.d (.int r)) [bagO g' h']
def sp_is_fit : DSp := fun us M Q => ∃ (p : Pat) (n : Nd), us = [.d p.enc, .d n.enc] ∧ M = [] ∧ (∀ k, p ≠ .kind k) ∧ p.ok ∧ (n.op = "num" → ∃ w, n.mark = .int w) ∧ Q (.d (.bool (isFit p n))) []
structure Rule where
  name : Str
  kind : Str
  pat : Pat
  cost : Int
def Rule.enc (r : Rule) : PyData := .tuple [.str r.name, .str r.kind, r.pat.enc, .int r.cost]
def RulesOk (rs : List Rule) : Prop := rs.length ≤ 1000 ∧ ∀ r ∈ rs, r.pat.ok ∧ r.pat.depth ≤ 8 ∧ r.pat.size ≤ 100000
def encMachine (g : Str) (rs : List Rule) : PyData := .tuple [.str g, .list (rs.map Rule.enc)]
def fit1 (web : List Nd) (a : Nat) (r : Rule) : List PyData := match fit web r.pat a with
  | none => []
  | some (ns, ms) => [.tuple [.str r.name, .tuple (ns.map encNeed), .tuple ms]]
def fitsD (web : List Nd) (a : Nat) (rs : List Rule) : List PyData := (rs.map (fit1 web a)).flatten
def isKind : Pat → Bool
  | .kind _ => true
  | _ => false
def subs : Pat → List Pat
  | .op _ ps => ps
  | _ => []
theorem enc_tup (p : Pat) (h : isKind p = false) : ∃ s tl, p.enc = .tuple (.str s :: tl) ∧ ∀ ks : List Nat, (p = .num ∨ (∃ w, p = .is_ w) ∨ (∃ w, p = .lss w) ∨ p = .var → ks = []) → (encKids ks).zip tl = (encKids ks).zip (Pat.encs (subs p)) := by
  cases p with
  | kind k => cases h
  | num => exact ⟨_, _, by unfold Pat.enc; rfl, fun ks e => by rw [e (.inl rfl)]; rfl⟩
  | is_ w => exact ⟨_, _, by unfold Pat.enc; rfl, fun ks e => by rw [e (.inr (.inl ⟨_, rfl⟩))]; rfl⟩
  | lss w => exact ⟨_, _, by unfold Pat.enc; rfl, fun ks e => by rw [e (.inr (.inr (.inl ⟨_, rfl⟩)))]; rfl⟩
  | var => exact ⟨_, _, by unfold Pat.enc; rfl, fun ks e => by rw [e (.inr (.inr (.inr rfl)))]; rfl⟩
  | op o ps => exact ⟨_, _, by unfold Pat.enc; rfl, fun ks _ => rfl⟩
theorem fit_node (web : List Nd) (p : Pat) (a : Nat) (n : Nd) (h : isKind p = false) (hn : web[a]? = some n) (hw : NdOk web.length n) : fit web p a = if isFit p n = true then (match fitAll web (subs p) n.kids with
    | none => none
    | some (ns, ms) => some (ns, marks0 n ++ ms)) else none := by
  cases p with
  | kind k => cases h
  | op o ps =>
    unfold fit
    rw [hn]
    simp only [isFit, subs, decide_eq_true_eq]
  | _ =>
    unfold fit leafFit
    rw [hn]
    simp [subs, fitAll]
theorem leaf_kids {p : Pat} {n : Nd} {l : Nat} (hw : NdOk l n) (hf : isFit p n = true) : p = .num ∨ (∃ w, p = .is_ w) ∨ (∃ w, p = .lss w) ∨ p = .var → n.kids = [] := by
  rintro (rfl | ⟨w, rfl⟩ | ⟨w, rfl⟩ | rfl) <;> simp [isFit] at hf
  · exact (hw.num hf).2
  · exact (hw.num hf.1).2
  · exact (hw.num hf.1).2
  · exact hw.var hf
def sp_matched : Nat → DSp := fun lv us M Q => ∃ (web : List Nd) (p : Pat) (a : Nat), us = [.d p.enc, .d (encWeb web), .d (.int (a : Int))] ∧ M = [] ∧ WebOk web ∧ a < web.length ∧ p.ok ∧ p.depth ≤ lv ∧ p.size ≤ 100000 ∧ Q (.d (encFit (fit web p a))) []
theorem web_at {web : List Nd} {a : Nat} (h : a < web.length) : ∃ n, web[a]? = some n ∧ n ∈ web ∧ atI (web.map Nd.enc) (a : Int) = some n.enc := by
  refine ⟨web[a], List.getElem?_eq_getElem h, List.getElem_mem h, ?_⟩
  unfold atI ixN
  rw [if_pos (by omega), if_pos (by rw [List.length_map]; omega)]
  show (web.map Nd.enc)[a]? = _
  rw [List.getElem?_map, List.getElem?_eq_getElem h]; rfl
def nameOk (s : Str) : Prop := 1 ≤ s.cps.toList.length ∧ s.cps.toList.length ≤ 8 ∧ ∀ c ∈ s.cps.toList, 97 ≤ c ∧ c ≤ 122
theorem name_shaped {s : Str} (h : nameOk s) : SeqAt.shaped (.str s) = true := by
  have e : PyData.strOk s = true := by
    unfold PyData.strOk
    rw [Array.all_eq_true_iff_forall_mem]
    intro c hc
    have := h.2.2 c (Array.mem_toList_iff.mpr hc)
    exact decide_eq_true (by omega)
  simp [SeqAt.shaped, PyData.canLay0, PyData.depth, e]
def sp_name : DSp := fun us M Q => ∃ g h : Int, us = [.p 0] ∧ M = [bagO g h] ∧ bagOk g h ∧ ∀ s g' h', nameOk s → bagOk g' h' → Q (.d (.str s)) [bagO g' h']
theorem names_at (i : Int) (h0 : 0 ≤ i) (h5 : i < 5) : ∃ s : Str, atI ([.str "a", .str "b", .str "ab", .str "zzzzzzzz", .str "ax"] : List PyData) i = some (.str s) ∧ nameOk s := by
  have h : i = 0 ∨ i = 1 ∨ i = 2 ∨ i = 3 ∨ i = 4 := by omega
  rcases h with rfl | rfl | rfl | rfl | rfl <;> exact ⟨_, rfl, by decide +kernel, by decide +kernel, by decide +kernel⟩
theorem fin_bag {g h g' h' : Int} {Qu : U → List Ob → Prop} {z : PyData} (q : Qu (.d z) [bagO g' h']) : Fin' [bagO g h] Qu (.d z) [bagO g' h'] := fin_d (Nat.le_refl _) (fun o ho => by
  have e : o = _ := List.mem_singleton.mp ho
  subst e
  exact trivial) q
theorem letter_at (i : Int) (h0 : 0 ≤ i) (h26 : i < 26) : ∃ c, atI (Str.ofString "abcdefghijklmnopqrstuvwxyz").cps.toList i = some c ∧ 97 ≤ c ∧ c ≤ 122 := by
  have hl : (Str.ofString "abcdefghijklmnopqrstuvwxyz").cps.toList = [97, 98, 99, 100, 101, 102, 103, 104, 105, 106, 107, 108, 109, 110, 111, 112, 113, 114, 115, 116, 117, 118, 119, 120, 121, 122] := by decide +kernel
  rw [hl]
  have hj : i.toNat < 26 := by omega
  refine ⟨97 + i.toNat, ?_, by omega, by omega⟩
  unfold atI ixN
  rw [if_pos h0, if_pos (by simp; omega)]
  have : ∀ j < 26, ([97, 98, 99, 100, 101, 102, 103, 104, 105, 106, 107, 108, 109, 110, 111, 112, 113, 114, 115, 116, 117, 118, 119, 120, 121, 122] : List Nat)[j]? = some (97 + j) := by decide +kernel
  exact this _ hj
theorem texts_map : ∀ cs : List Nat, texts (cs.map (fun c => PyData.str ⟨#[c]⟩)) = some (cs.map fun c => (⟨#[c]⟩ : Str))
  | [] => rfl
  | c :: cs => by rw [List.map_cons, List.map_cons]; unfold texts; rw [texts_map cs]
theorem chars_sum : ∀ cs : List Nat, ((cs.map fun c => (⟨#[c]⟩ : Str)).map (·.length)).sum = cs.length
  | [] => rfl
  | c :: cs => by rw [List.map_cons, List.map_cons, List.sum_cons, chars_sum cs]; show 1 + cs.length = cs.length + 1; omega
theorem joinL_flat : ∀ ps : List (List Nat), TL.joinL [] ps = ps.flatten
  | [] => rfl
  | [p] => by simp [TL.joinL]
  | p :: q :: r => by rw [TL.joinL, joinL_flat (q :: r)]; simp
theorem flat_one : ∀ cs : List Nat, ((cs.map fun c => (⟨#[c]⟩ : Str)).map TL.tl).flatten = cs
  | [] => rfl
  | c :: cs => by rw [List.map_cons, List.map_cons, List.flatten_cons, flat_one cs]; rfl
theorem join_chars (cs : List Nat) : (Txt.join (Str.ofString "") (cs.map fun c => (⟨#[c]⟩ : Str))).cps.toList = cs := by
  rw [TL.join_eq]
  refine (TL.tl_join (Str.ofString "") (cs.map fun c => (⟨#[c]⟩ : Str))).trans ?_
  rw [show TL.tl (Str.ofString "") = [] by decide, joinL_flat, flat_one]
def kidsOf (web : List Nd) : List Nat := (web.map Nd.kids).flatten
def ops1 : List Str := ["load", "neg", "not"]
def ops2 : List Str := ["add", "sub", "mul", "and", "or", "xor"]
/-- a node of a web, not its deed: at the l-th place -/
def GoodNd (l : Nat) (n : Nd) : Prop :=
  (n.op = "num" ∧ (∃ w : Int, n.mark = .int w ∧ 0 ≤ w ∧ w < 65536) ∧ n.kids = []) ∨ (n.op = "var" ∧ (∃ s, n.mark = .str s ∧ nameOk s) ∧ n.kids = []) ∨
  (n.op ∈ ops1 ∧ n.mark = .none ∧ ∃ a, n.kids = [a] ∧ a < l) ∨ (n.op ∈ ops2 ∧ n.mark = .none ∧ ∃ a b, n.kids = [a, b] ∧ a < l ∧ b < l)
def PartOk (web : List Nd) : Prop := ∀ i n, web[i]? = some n → GoodNd i n
structure Loose (web : List Nd) (loose : List Nat) : Prop where
  nd : loose.Nodup
  lt : ∀ i ∈ loose, i < web.length
  un : ∀ i, i < web.length → (i ∈ loose ↔ i ∉ kidsOf web)
def OnceOk (once : Bool) (web : List Nd) : Prop := once = true → (kidsOf web).Nodup
def webO (web : List Nd) : Ob := .lst (web.map Nd.enc)
def looseO (loose : List Nat) : Ob := .lst (encKids loose)
def sp_part : DSp := fun us M Q => ∃ (g h : Int) (web : List Nd) (loose : List Nat) (once : Bool), us = [.p 0, .p 1, .p 2, .d (.bool once)] ∧ M = [bagO g h, webO web, looseO loose] ∧ bagOk g h ∧ PartOk web ∧ Loose web loose ∧ OnceOk once web ∧ web.length ≤ 1000 ∧ loose.length ≤ web.length ∧
  ∀ (n : Nd) (loose' : List Nat) (g' h' : Int), PartOk (web ++ [n]) → Loose (web ++ [n]) loose' → OnceOk once (web ++ [n]) → bagOk g' h' → web.length ∈ loose' → loose'.length ≤ loose.length + 1 → Q (.d .none) [bagO g' h', webO (web ++ [n]), looseO loose']
/-- an op with the number of its kids -/
def OpMany (op : Str) (many : Nat) : Prop := (op = "num" ∧ many = 0) ∨ (op = "var" ∧ many = 0) ∨ (op ∈ ops1 ∧ many = 1) ∨ (op ∈ ops2 ∧ many = 2)
theorem op_at (i : Int) (h0 : 0 ≤ i) (h12 : i < 12) : ∃ (op : Str) (many : Nat), atI ([.str "num", .str "var", .str "num", .str "load", .str "neg", .str "not", .str "add", .str "sub", .str "mul", .str "and", .str "or", .str "xor"] : List PyData) i = some (.str op) ∧ OpMany op many ∧
    ((valD [(.inr "num", .int 0), (.inr "var", .int 0), (.inr "load", .int 1), (.inr "neg", .int 1), (.inr "not", .int 1)] (.inr op) = none ∧ many = 2) ∨ valD [(.inr "num", .int 0), (.inr "var", .int 0), (.inr "load", .int 1), (.inr "neg", .int 1), (.inr "not", .int 1)] (.inr op) = some (.int (many : Int))) := by
  have h : i = 0 ∨ i = 1 ∨ i = 2 ∨ i = 3 ∨ i = 4 ∨ i = 5 ∨ i = 6 ∨ i = 7 ∨ i = 8 ∨ i = 9 ∨ i = 10 ∨ i = 11 := by omega
  rcases h with rfl | rfl | rfl | rfl | rfl | rfl | rfl | rfl | rfl | rfl | rfl | rfl
  · exact ⟨_, 0, rfl, .inl ⟨rfl, rfl⟩, .inr (by rfl)⟩
  · exact ⟨_, 0, rfl, .inr (.inl ⟨rfl, rfl⟩), .inr (by rfl)⟩
  · exact ⟨_, 0, rfl, .inl ⟨rfl, rfl⟩, .inr (by rfl)⟩
  · exact ⟨_, 1, rfl, .inr (.inr (.inl ⟨by decide, rfl⟩)), .inr (by rfl)⟩
  · exact ⟨_, 1, rfl, .inr (.inr (.inl ⟨by decide, rfl⟩)), .inr (by rfl)⟩
  · exact ⟨_, 1, rfl, .inr (.inr (.inl ⟨by decide, rfl⟩)), .inr (by rfl)⟩
  all_goals exact ⟨_, 2, rfl, .inr (.inr (.inr ⟨by decide, rfl⟩)), .inl ⟨by rfl, rfl⟩⟩
theorem rg_ok {n : Nat} (h : n ≤ 1000) : RgOk 0 (n : Int) := ⟨by omega, by omega, by omega, by omega, by omega⟩
theorem rgD_kids (n : Nat) : rgD (n : Int) = encKids (List.range n) := by unfold rgD encKids; rw [Int.toNat_natCast]
/-- while a node's kids are drawn -/
structure KidSt (once : Bool) (web : List Nd) (loose loose2 kids : List Nat) : Prop where
  nd : loose2.Nodup
  mem : ∀ i, i ∈ loose2 ↔ i ∈ loose ∧ i ∉ kids
  lt : ∀ k ∈ kids, k < web.length
  on : once = true → kids.Nodup ∧ (∀ k ∈ kids, k ∈ loose) ∧ loose2.length + kids.length = loose.length
  le : loose2.length ≤ loose.length
theorem kid_keep {once : Bool} {web : List Nd} {loose loose2 kids : List Nat} {k : Nat} (h : KidSt once web loose loose2 kids) (hk : k < web.length) (ho : once = true → k ∈ loose2) (hn : k ∉ loose2) : KidSt once web loose loose2 (kids ++ [k]) where
  nd := h.nd
  mem := fun i => by
    rw [h.mem i, List.mem_append, List.mem_singleton]
    constructor
    · rintro ⟨a, b⟩
      refine ⟨a, fun c => c.elim b fun e => ?_⟩
      subst e
      exact hn ((h.mem _).mpr ⟨a, b⟩)
    · rintro ⟨a, b⟩; exact ⟨a, fun c => b (.inl c)⟩
  lt := fun i hi => (List.mem_append.mp hi).elim (h.lt i) fun e => by rw [List.mem_singleton.mp e]; exact hk
  on := fun e => absurd (ho e) hn
  le := h.le
theorem kid_drop {once : Bool} {web : List Nd} {loose loose2 kids : List Nat} {k : Nat} (h : KidSt once web loose loose2 kids) (hk : k < web.length) (hi : k ∈ loose2) : KidSt once web loose (loose2.erase k) (kids ++ [k]) where
  nd := h.nd.erase k
  mem := fun i => by
    rw [h.nd.mem_erase_iff, h.mem i, List.mem_append, List.mem_singleton]
    constructor
    · rintro ⟨c, a, b⟩; exact ⟨a, fun q => q.elim b c⟩
    · rintro ⟨a, b⟩; exact ⟨fun e => b (.inr e), a, fun e => b (.inl e)⟩
  lt := fun i hi => (List.mem_append.mp hi).elim (h.lt i) fun e => by rw [List.mem_singleton.mp e]; exact hk
  on := fun e => by
    obtain ⟨a, b, c⟩ := h.on e
    have hk1 := (h.mem k).mp hi
    refine ⟨List.nodup_append.mpr ⟨a, by simp, fun x hx y hy => ?_⟩, fun x hx => ?_, ?_⟩
    · rw [List.mem_singleton.mp hy]; exact fun q => hk1.2 (q ▸ hx)
    · exact (List.mem_append.mp hx).elim (b x) fun q => by rw [List.mem_singleton.mp q]; exact hk1.1
    · rw [List.length_erase_of_mem hi, List.length_append, List.length_singleton]
      have := List.length_pos_of_mem hi
      omega
  le := Nat.le_trans (List.length_erase_le) h.le
theorem kids_at (ls : List Nat) (j : Int) (h0 : 0 ≤ j) (h1 : j < ls.length) : ∃ k, k ∈ ls ∧ atI (encKids ls) j = some (.int (k : Int)) := by
  have hj : j.toNat < ls.length := by omega
  refine ⟨ls[j.toNat], List.getElem_mem hj, ?_⟩
  unfold atI ixN
  rw [if_pos h0, if_pos (by simp [encKids]; omega)]
  show (encKids ls)[j.toNat]? = _
  unfold encKids
  rw [List.getElem?_map, List.getElem?_eq_getElem hj]; rfl
theorem kids_in (ls : List Nat) (k : Nat) : (encKids ls).any (fun z => PyData.eqv z (.int (k : Int))) = decide (k ∈ ls) := by
  induction ls with
  | nil => rfl
  | cons x xs ih =>
    show (PyData.eqv (.int (x : Int)) (.int (k : Int)) || (encKids xs).any _) = _
    rw [ih, eqv_i, Bool.eq_iff_iff]
    simp only [Bool.or_eq_true, decide_eq_true_eq, List.mem_cons, Int.natCast_inj]
    exact ⟨fun h => h.imp Eq.symm id, fun h => h.imp Eq.symm id⟩
theorem kids_lay : ∀ ls : List Nat, PyData.canLayAll0 (encKids ls) = true ∧ PyData.depthAll (encKids ls) = 0
  | [] => ⟨rfl, rfl⟩
  | x :: xs => by
    obtain ⟨a, b⟩ := kids_lay xs
    unfold encKids at *
    rw [List.map_cons]
    simp [PyData.canLayAll0, PyData.canLay0, PyData.depthAll, PyData.depth, a, b]
theorem kids_shaped (ls : List Nat) : SeqAt.shaped (.list (encKids ls)) = true := by
  obtain ⟨a, b⟩ := kids_lay ls
  simp [SeqAt.shaped, PyData.canLay0, PyData.depth, a, b]
theorem kids_ints (ls : List Nat) : encKids ls = (ls.map fun (k : Nat) => (k : Int)).map PyData.int := by simp [encKids]
theorem kids_erase (ls : List Nat) (k : Nat) : ((ls.map fun (k : Nat) => (k : Int)).erase (k : Int)).map PyData.int = encKids (ls.erase k) := by
  induction ls with
  | nil => rfl
  | cons x xs ih =>
    rw [List.map_cons, List.erase_cons, List.erase_cons]
    by_cases e : x = k
    · subst e; simp [kids_ints]
    · rw [if_neg (fun q => e (Int.ofNat_inj.mp (eq_of_beq q))), if_neg (fun q => e (eq_of_beq q)), List.map_cons, ih]; rfl
theorem len_kids (ks : List Nat) : (encKids ks).length = ks.length := by simp [encKids]
theorem len_view {M : List Ob} {x : U} {sm : List Nat} (h : view M x = some (.list (encKids sm))) : fLen M x = some (.int (sm.length : Int), True) := by
  unfold fLen; rw [h]; simp [encKids]
theorem kids_snoc (ks : List Nat) (k : Nat) : Ob.lst (encKids ks ++ [.int (k : Int)]) = looseO (ks ++ [k]) := by
  unfold looseO encKids; rw [List.map_append]; rfl
theorem good_kids {l : Nat} {n : Nd} (h : GoodNd l n) : ∀ k ∈ n.kids, k < l := by
  rcases h with ⟨_, _, e⟩ | ⟨_, _, e⟩ | ⟨_, _, a, e, h1⟩ | ⟨_, _, a, b, e, h1, h2⟩ <;> rw [e] <;> intro k hk
  · cases hk
  · cases hk
  · rw [List.mem_singleton.mp hk]; exact h1
  · rcases List.mem_cons.mp hk with rfl | hk
    · exact h1
    · rw [List.mem_singleton.mp hk]; exact h2
theorem kids_lt {web : List Nd} (h : PartOk web) : ∀ k ∈ kidsOf web, k < web.length := by
  intro k hk
  unfold kidsOf at hk
  obtain ⟨ks, h1, h2⟩ := List.mem_flatten.mp hk
  obtain ⟨n, h3, rfl⟩ := List.mem_map.mp h1
  obtain ⟨i, hi, e⟩ := List.getElem_of_mem h3
  exact Nat.lt_trans (good_kids (h i n (by rw [List.getElem?_eq_getElem hi, e])) k h2) hi
theorem kidsOf_snoc (web : List Nd) (n : Nd) : kidsOf (web ++ [n]) = kidsOf web ++ n.kids := by simp [kidsOf]
theorem part_snoc {web : List Nd} {n : Nd} (h : PartOk web) (g : GoodNd web.length n) : PartOk (web ++ [n]) := by
  intro i m hm
  by_cases hi : i < web.length
  · rw [List.getElem?_append_left hi] at hm; exact h i m hm
  · rw [List.getElem?_append_right (by omega)] at hm
    have e : i = web.length := by
      have := (List.getElem?_eq_some_iff.mp hm).1
      simp at this; omega
    subst e
    simp at hm
    subst hm
    exact g
theorem loose_snoc {once : Bool} {web : List Nd} {loose loose2 kids : List Nat} {op : Str} {mark : PyData} (hw : PartOk web) (hl : Loose web loose) (h : KidSt once web loose loose2 kids) : Loose (web ++ [⟨op, mark, kids⟩]) (loose2 ++ [web.length]) where
  nd := List.nodup_append.mpr ⟨h.nd, by simp, fun x hx y hy => by
    rw [List.mem_singleton.mp hy]
    have := hl.lt x ((h.mem x).mp hx).1
    omega⟩
  lt := fun i hi => by
    rw [List.length_append, List.length_singleton]
    rcases List.mem_append.mp hi with hi | hi
    · have := hl.lt i ((h.mem i).mp hi).1; omega
    · rw [List.mem_singleton.mp hi]; omega
  un := fun i hi => by
    rw [kidsOf_snoc, List.mem_append, List.mem_append, List.mem_singleton, h.mem i]
    rw [List.length_append, List.length_singleton] at hi
    by_cases e : i = web.length
    · subst e
      refine ⟨fun _ q => ?_, fun _ => .inr rfl⟩
      rcases q with q | q
      · exact Nat.lt_irrefl _ (kids_lt hw _ q)
      · exact Nat.lt_irrefl _ (h.lt _ q)
    · have hi' : i < web.length := by omega
      rw [hl.un i hi']
      constructor
      · rintro (⟨a, b⟩ | a)
        · exact fun q => q.elim a b
        · exact absurd a e
      · exact fun q => .inl ⟨fun a => q (.inl a), fun b => q (.inr b)⟩
theorem once_snoc {once : Bool} {web : List Nd} {loose loose2 kids : List Nat} {op : Str} {mark : PyData} (hl : Loose web loose) (ho : OnceOk once web) (h : KidSt once web loose loose2 kids) : OnceOk once (web ++ [⟨op, mark, kids⟩]) := fun e => by
  rw [kidsOf_snoc]
  obtain ⟨a, b, _⟩ := h.on e
  refine List.nodup_append.mpr ⟨ho e, a, fun x hx y hy q => ?_⟩
  subst q
  exact (hl.un x (hl.lt x (b x hy))).mp (b x hy) hx
theorem len_two {ks : List Nat} (h : ks.length = 2) : ∃ a b, ks = [a, b] := by
  match ks, h with
  | [a, b], _ => exact ⟨a, b, rfl⟩
def DeedOk (l : Nat) (n : Nd) : Prop :=
  (n.op = "put" ∧ n.mark = .none ∧ ∃ a b, n.kids = [a, b] ∧ a < l ∧ b < l) ∨ (n.op = "set" ∧ (∃ s, n.mark = .str s ∧ nameOk s) ∧ ∃ a, n.kids = [a] ∧ a < l)
structure WebG (once : Bool) (parts : List Nd) (deed : Nd) : Prop where
  part : PartOk parts
  dd : DeedOk parts.length deed
  used : ∀ i, i < parts.length → i ∈ kidsOf (parts ++ [deed])
  tree : once = true → (kidsOf (parts ++ [deed])).Nodup
theorem fin_b {g h g' h' : Int} {Qu : U → List Ob → Prop} {z : PyData} {M' : List Ob} (q : Qu (.d z) [bagO g' h']) : Fin' [bagO g h] Qu (.d z) (bagO g' h' :: M') := fin_d (show 1 ≤ (bagO g' h' :: M').length by simp) (fun o ho => by
  have e : o = bagO g' h' := by simpa using ho
  subst e
  exact trivial) q
theorem fin_be {g h g' h' : Int} {Qu : U → List Ob → Prop} {z z' : PyData} {M' : List Ob} (e : z' = z) (q : Qu (.d z) [bagO g' h']) : Fin' [bagO g h] Qu (.d z') (bagO g' h' :: M') := fin_b (e ▸ q)
theorem web_put {once : Bool} {web : List Nd} {loose : List Nat} {a b : Nat} {s : List Nat} (hw : PartOk web) (hl : Loose web loose) (ho : OnceOk once web) (hs : s = [a, b]) (ha : a < web.length) (hb : b < web.length) (hsub : ∀ x ∈ loose, x ∈ s) (hon : once = true → s = loose) : WebG once web ⟨"put", .none, s⟩ where
  part := hw
  dd := .inl ⟨rfl, rfl, a, b, hs, ha, hb⟩
  used := fun i hi => by
    rw [kidsOf_snoc, List.mem_append]
    by_cases h : i ∈ kidsOf web
    · exact .inl h
    · exact .inr (hsub i ((hl.un i hi).mpr h))
  tree := fun e => by
    rw [kidsOf_snoc]
    have es := hon e
    show (kidsOf web ++ s).Nodup
    rw [es]
    refine List.nodup_append.mpr ⟨ho e, hl.nd, fun x hx y hy q => ?_⟩
    subst q
    exact (hl.un x (hl.lt x hy)).mp hy hx
theorem web_set {once : Bool} {web : List Nd} {a : Nat} {s : Str} (hw : PartOk web) (hl : Loose web [a]) (ho : OnceOk once web) (hs : nameOk s) : WebG once web ⟨"set", .str s, [a]⟩ where
  part := hw
  dd := .inr ⟨rfl, ⟨s, rfl, hs⟩, a, rfl, hl.lt a List.mem_cons_self⟩
  used := fun i hi => by
    rw [kidsOf_snoc, List.mem_append]
    by_cases h : i ∈ kidsOf web
    · exact .inl h
    · exact .inr ((hl.un i hi).mpr h)
  tree := fun e => by
    rw [kidsOf_snoc]
    refine List.nodup_append.mpr ⟨ho e, hl.nd, fun x hx y hy q => ?_⟩
    subst q
    exact (hl.un x (hl.lt x hy)).mp hy hx
theorem enc_snoc (web : List Nd) (n : Nd) : PyData.list (web.map Nd.enc ++ [n.enc]) = encWeb (web ++ [n]) := by simp [encWeb]
theorem kids_eraseIdx : ∀ (ls : List Nat) (k : Nat), (encKids ls).eraseIdx k = encKids (ls.eraseIdx k)
  | [], _ => rfl
  | _ :: _, 0 => rfl
  | x :: xs, k + 1 => by
    have e := kids_eraseIdx xs k
    simp only [encKids, List.map_cons, List.eraseIdx_cons_succ] at e ⊢
    rw [e]
theorem web_snoc (web : List Nd) (n : Nd) : Ob.lst (web.map Nd.enc ++ [n.enc]) = webO (web ++ [n]) := by simp [webO]
theorem erase_at : ∀ {ls : List Nat} (nd : ls.Nodup) (j : Nat) (h : j < ls.length), ls.erase ls[j] = ls.eraseIdx j
  | x :: xs, _, 0, _ => by simp
  | x :: xs, nd, j + 1, h => by
    rw [List.nodup_cons] at nd
    have hj : j < xs.length := by simpa using h
    have hx : ¬ x = xs[j] := fun e => nd.1 (e ▸ List.getElem_mem hj)
    simp only [List.getElem_cons_succ, List.eraseIdx_cons_succ]
    rw [List.erase_cons_tail (by simpa using hx), erase_at nd.2 j hj]
theorem pop_at {ls : List Nat} (nd : ls.Nodup) (j : Int) (h0 : 0 ≤ j) (h1 : j < ls.length) : ∃ k a, seqIndex? j (encKids ls).length = some k ∧ (encKids ls)[k]? = some (.int ((a : Nat) : Int)) ∧ a ∈ ls ∧ (encKids ls).eraseIdx k = encKids (ls.erase a) := by
  have hj : j.toNat < ls.length := by omega
  refine ⟨j.toNat, ls[j.toNat], ?_, ?_, List.getElem_mem hj, ?_⟩
  · have e : (encKids ls).length = ls.length := by simp [encKids]
    rw [e]
    exact PySem.seqIndex_of h0 (by omega)
  · unfold encKids
    rw [List.getElem?_map, List.getElem?_eq_getElem hj]; rfl
  · rw [erase_at nd j.toNat hj]
    exact kids_eraseIdx ls j.toNat
theorem join_op (j : Int) (h0 : 0 ≤ j) (h3 : j < 3) : ∃ op : Str, atI ([.str "add", .str "sub", .str "xor"] : List PyData) j = some (.str op) ∧ op ∈ ops2 := by
  have h : j = 0 ∨ j = 1 ∨ j = 2 := by omega
  rcases h with rfl | rfl | rfl <;> exact ⟨_, rfl, by decide⟩
theorem kids_get (ks : List Nat) (j : Nat) (k : Nat) (h : ks[j]? = some k) : atI (encKids ks) (j : Int) = some (.int (k : Int)) := by
  have hj := (List.getElem?_eq_some_iff.mp h).1
  unfold atI ixN encKids
  rw [if_pos (by omega), if_pos (by simp; omega)]
  simp [h]

theorem names4 (i : Int) (h0 : 0 ≤ i) (h4 : i < 4) : ∃ s : Str, atI ([.str "a", .str "b", .str "xyz", .str "zzzzzzzz"] : List PyData) i = some (.str s) ∧ nameOk s := by
  have nd : ∀ s : Str, (decide (1 ≤ s.cps.toList.length ∧ s.cps.toList.length ≤ 8) && s.cps.toList.all fun c => decide (97 ≤ c ∧ c ≤ 122)) = true → nameOk s := fun s h => by
    rw [Bool.and_eq_true, List.all_eq_true] at h
    have a := of_decide_eq_true h.1
    exact ⟨a.1, a.2, fun c hc => of_decide_eq_true (h.2 c hc)⟩
  have h : i = 0 ∨ i = 1 ∨ i = 2 ∨ i = 3 := by omega
  rcases h with rfl | rfl | rfl | rfl
  · exact ⟨"a", rfl, nd _ (by decide +kernel)⟩
  · exact ⟨"b", rfl, nd _ (by decide +kernel)⟩
  · exact ⟨"xyz", rfl, nd _ (by decide +kernel)⟩
  · exact ⟨"zzzzzzzz", rfl, nd _ (by decide +kernel)⟩
def LeafNd (n : Nd) : Prop := ((n.op = "num" ∧ ∃ w : Int, n.mark = .int w ∧ 0 ≤ w ∧ w < 65536) ∨ (n.op = "var" ∧ ∃ s, n.mark = .str s ∧ nameOk s)) ∧ n.kids = []
def sp_leaf : DSp := fun us M Q => ∃ g h : Int, us = [.p 0] ∧ M = [bagO g h] ∧ bagOk g h ∧ ∀ n g' h', LeafNd n → bagOk g' h' → Q (.d n.enc) [bagO g' h']
def sp_web2 : DSp := fun us M Q => ∃ (g h : Int) (many : Nat) (shared : Bool), us = [.p 0, .d (.int (many : Int)), .d (.bool shared)] ∧ M = [bagO g h] ∧ bagOk g h ∧ 1 ≤ many ∧ many ≤ 100 ∧
  ∀ (parts : List Nd) (deed : Nd) (g' h' : Int), WebG false parts deed → 1 ≤ parts.length → parts.length + 1 ≤ 2 * many → bagOk g' h' → Q (.d (encWeb (parts ++ [deed]))) [bagO g' h']
theorem leaf_good {l : Nat} {n : Nd} (h : LeafNd n) : GoodNd l n := by
  rcases h with ⟨⟨a, b⟩ | ⟨a, b⟩, c⟩
  · exact .inl ⟨a, b, c⟩
  · exact .inr (.inl ⟨a, b, c⟩)
theorem kid0 {web : List Nd} {loose : List Nat} (hl : Loose web loose) : KidSt false web loose loose [] := ⟨hl.nd, fun i => by simp, fun k hk => (nomatch hk), nofun, Nat.le_refl _⟩
theorem once_no {web : List Nd} : OnceOk false web := nofun
theorem eq_nil_b (ls : List Nat) : PyData.eqv (.list (encKids ls)) (.list []) = decide (ls = []) := by
  cases ls with
  | nil => rfl
  | cons a as => rfl
theorem op1_at (i : Int) (h0 : 0 ≤ i) (h3 : i < 3) : ∃ op : Str, atI ([.str "load", .str "neg", .str "not"] : List PyData) i = some (.str op) ∧ op ∈ ops1 := by
  have h : i = 0 ∨ i = 1 ∨ i = 2 := by omega
  rcases h with rfl | rfl | rfl <;> exact ⟨_, rfl, by decide⟩
theorem op2_at (i : Int) (h0 : 0 ≤ i) (h7 : i < 7) : ∃ op : Str, atI ([.str "add", .str "sub", .str "mul", .str "and", .str "or", .str "xor", .str "add", .str "load"] : List PyData) i = some (.str op) ∧ op ∈ ops2 := by
  have h : i = 0 ∨ i = 1 ∨ i = 2 ∨ i = 3 ∨ i = 4 ∨ i = 5 ∨ i = 6 := by omega
  rcases h with rfl | rfl | rfl | rfl | rfl | rfl | rfl <;> exact ⟨_, rfl, by decide⟩
theorem trim3 {a b c : Ob} {t : List Ob} {S : Rho → List Ob → Prop} {ρ : Rho} {M0 : List Ob} (h1 : M0.length = 3) (ok : ∀ o ∈ [a, b, c], okOb 3 o) (q : S (ρ.map (dropP 3)) [a, b, c]) : Trim M0 S ρ (a :: b :: c :: t) := by
  unfold Trim
  rw [h1]
  exact ⟨by simp, ok, q⟩
def opNames : List Str := ["num", "var", "load", "neg", "not", "add", "sub", "mul", "and", "or", "xor", "put", "set"]
def kindOk (s : Str) : Prop := nameOk s ∧ s ∉ opNames
def sp_kind : DSp := fun us M Q => ∃ g h : Int, us = [.p 0] ∧ M = [bagO g h] ∧ bagOk g h ∧ ∀ s g' h', kindOk s → bagOk g' h' → Q (.d (.str s)) [bagO g' h']
theorem kind_at (s0 : Str) (h0' : nameOk s0) (i : Int) (h0 : 0 ≤ i) (h6 : i < 6) : ∃ s : Str, atI ([.str "reg", .str "mem", .str "imm", .str "x", .str "stmt", .str s0] : List PyData) i = some (.str s) ∧ nameOk s := by
  have h : i = 0 ∨ i = 1 ∨ i = 2 ∨ i = 3 ∨ i = 4 ∨ i = 5 := by omega
  rcases h with rfl | rfl | rfl | rfl | rfl | rfl
  · exact ⟨_, rfl, by decide +kernel, by decide +kernel, by decide +kernel⟩
  · exact ⟨_, rfl, by decide +kernel, by decide +kernel, by decide +kernel⟩
  · exact ⟨_, rfl, by decide +kernel, by decide +kernel, by decide +kernel⟩
  · exact ⟨_, rfl, by decide +kernel, by decide +kernel, by decide +kernel⟩
  · exact ⟨_, rfl, by decide +kernel, by decide +kernel, by decide +kernel⟩
  · exact ⟨_, rfl, h0'⟩
theorem any_name (x : Str) (ns : List Str) : (ns.map PyData.str).any (fun z => PyData.eqv z (.str x)) = decide (x ∈ ns) := by
  induction ns with
  | nil => rfl
  | cons n ns ih =>
    rw [List.map_cons, List.any_cons, ih, eqv_s, Bool.eq_iff_iff]
    simp only [Bool.or_eq_true, decide_eq_true_eq, List.mem_cons]
    exact ⟨fun h => h.imp Eq.symm id, fun h => h.imp Eq.symm id⟩
theorem kind_q {x : Str} (h : x ∈ opNames) : kindOk (x ++ Str.ofString "q") := by
  have e : ∀ x ∈ opNames, kindOk (x ++ Str.ofString "q") := by unfold kindOk nameOk; decide +kernel
  exact e x h
mutual
def tam (L : Nat) : PyData → Bool
  | .str x => PyData.strOk x && decide (x.length ≤ 100)
  | .list xs => decide (xs.length ≤ L) && tams L xs
  | .tuple xs => decide (xs.length ≤ L) && tams L xs
  | .dict _ => false
  | _ => true
def tams (L : Nat) : List PyData → Bool
  | [] => true
  | x :: xs => tam L x && tams L xs
end
theorem tam_nd {L : Nat} : ∀ {d : PyData}, tam L d = true → noDict d = true
  | .none, _ => rfl
  | .bool _, _ => rfl
  | .int _, _ => rfl
  | .str _, _ => rfl
  | .list _, _ => rfl
  | .tuple _, _ => rfl
  | .dict _, h => by simp [tam] at h
mutual
theorem tam_lay {L : Nat} : ∀ d : PyData, tam L d = true → d.canLay0 = true
  | .none, _ => rfl
  | .bool _, _ => rfl
  | .int i, h => rfl
  | .str x, h => by
    have h' : PyData.strOk x = true ∧ x.length ≤ 100 := by simpa [tam] using h
    exact h'.1
  | .list xs, h => by
    have h' : xs.length ≤ L ∧ tams L xs = true := by simpa [tam] using h
    exact tams_lay xs h'.2
  | .tuple xs, h => by
    have h' : xs.length ≤ L ∧ tams L xs = true := by simpa [tam] using h
    exact tams_lay xs h'.2
  | .dict _, h => by simp [tam] at h
theorem tams_lay {L : Nat} : ∀ xs : List PyData, tams L xs = true → PyData.canLayAll0 xs = true
  | [], _ => rfl
  | x :: xs, h => by
    have h' : tam L x = true ∧ tams L xs = true := by simpa [tams] using h
    simp [PyData.canLayAll0, tam_lay x h'.1, tams_lay xs h'.2]
end
theorem lookup_has (z : Str) : ∀ kvs : List (Str × Int), (kvs.lookup z).isSome = decide (z ∈ kvs.map (·.1))
  | [] => rfl
  | (k, i) :: kvs => by
    rw [List.lookup_cons]
    by_cases h : z = k
    · subst h; simp
    · have e : (z == k) = false := by simpa using h
      rw [e, List.map_cons]
      show (kvs.lookup z).isSome = _
      rw [lookup_has z kvs]
      simp [h]
def Ok1 (d : PyData) : Prop := noDict d = true ∧ ∀ s, d = .str s → s.length ≤ sizeLine
theorem tam_ok1 {L : Nat} {d : PyData} (h : tam L d = true) : Ok1 d := ⟨tam_nd h, fun s e => by
  subst e
  have h' : PyData.strOk s = true ∧ s.length ≤ 100 := by simpa [tam] using h
  have hsl : 1000 ≤ sizeLine := by decide
  omega⟩
theorem signs_go (s : Str) {ρ : Rho} {wg : WG} {k : WK} {Q : List U → List Ob → Prop} (f : Nat → Bool)
    (h1 : ∀ c (acc : List Bool) (R : List U → List Ob → Prop), acc.length < s.length → R (((acc ++ [f c]).map PyData.bool).map U.d) [] → wg (.d (.str ⟨#[c]⟩)) ρ [] fun ρ1 M1 => k ρ1 M1 ((acc.map PyData.bool).map U.d) R)
    (h0 : Q (((s.cps.toList.map f).map PyData.bool).map U.d) []) : wLcGo (fun _ => True) wg k ρ (signs s) [] [] Q := by
  refine wLcGo_rec (fun us acc M => ∃ (bs : List Bool) (cs : List Nat), acc = (bs.map PyData.bool).map U.d ∧ us = cs.map (fun c => U.d (.str ⟨#[c]⟩)) ∧ M = [] ∧ s.cps.toList.map f = bs ++ cs.map f) ?_ ?_ _ _ _ ⟨[], s.cps.toList, rfl, rfl, rfl, rfl⟩
  · rintro acc M ⟨bs, cs, rfl, h2, rfl, h3⟩
    cases cs with
    | cons c cs => cases h2
    | nil => rw [h3, List.map_nil, List.append_nil] at h0; exact ⟨trivial, h0⟩
  · rintro u us ih acc M ⟨bs, cs, rfl, h2, rfl, h3⟩
    cases cs with
    | nil => cases h2
    | cons c cs =>
      rw [List.map_cons] at h2
      injection h2 with e1 e2
      subst e1; subst e2
      have hl := congrArg List.length h3
      rw [List.length_map, List.length_append, List.length_map, List.length_cons] at hl
      have e : s.length = s.cps.toList.length := by show s.cps.size = _; rw [Array.length_toList]
      exact ⟨trivial, h1 c bs _ (by omega) (ih _ _ ⟨bs ++ [f c], cs, rfl, rfl, rfl, by rw [h3, List.map_cons, List.append_assoc]; rfl⟩)⟩
theorem tam_shaped {L : Nat} {d : PyData} (h : tam L d = true) (hd : d.depth ≤ 64) : SeqAt.shaped d = true := by
  simp [SeqAt.shaped, tam_lay d h, hd]
theorem tams_mem {L : Nat} : ∀ {xs : List PyData}, tams L xs = true ↔ ∀ x ∈ xs, tam L x = true
  | [] => by simp [tams]
  | x :: xs => by simp [tams, tams_mem (xs := xs)]
theorem depths_mem {xs : List PyData} {x : PyData} (h : x ∈ xs) : x.depth ≤ PyData.depthAll xs := by
  induction xs with
  | nil => cases h
  | cons y ys ih =>
    simp only [PyData.depthAll]
    rcases List.mem_cons.mp h with rfl | h
    · omega
    · have := ih h; omega
instance : DecidablePred nameOk := fun s => by unfold nameOk; infer_instance
def nmB : PyData → Bool
  | .str s => decide (nameOk s)
  | _ => false
def kdB : PyData → Bool
  | .str s => decide (nameOk s) && !decide (s ∈ opNames)
  | _ => false
def whB (lo hi : Int) : PyData → Bool
  | .int i => decide (lo ≤ i) && decide (i ≤ hi)
  | _ => false
theorem signs_all (s : Str) : nameOk s ↔ (1 ≤ (s.length : Int) ∧ (s.length : Int) ≤ 8) ∧ s.cps.toList.all (fun c => decide (c ∈ (Str.ofString "abcdefghijklmnopqrstuvwxyz").cps.toList)) = true := by
  have hl : (Str.ofString "abcdefghijklmnopqrstuvwxyz").cps.toList = [97, 98, 99, 100, 101, 102, 103, 104, 105, 106, 107, 108, 109, 110, 111, 112, 113, 114, 115, 116, 117, 118, 119, 120, 121, 122] := by decide +kernel
  rw [hl]
  have e : s.length = s.cps.toList.length := by show s.cps.size = _; rw [Array.length_toList]
  rw [e, List.all_eq_true]
  unfold nameOk
  have hc : ∀ c : Nat, decide (c ∈ [97, 98, 99, 100, 101, 102, 103, 104, 105, 106, 107, 108, 109, 110, 111, 112, 113, 114, 115, 116, 117, 118, 119, 120, 121, 122]) = true ↔ 97 ≤ c ∧ c ≤ 122 := fun c => by
    rw [decide_eq_true_iff]
    simp only [List.mem_cons, List.not_mem_nil, or_false]
    omega
  constructor
  · rintro ⟨h1, h2, h3⟩
    exact ⟨⟨by omega, by omega⟩, fun c hm => (hc c).mpr (h3 c hm)⟩
  · rintro ⟨⟨h1, h2⟩, h3⟩
    exact ⟨by omega, by omega, fun c hm => (hc c).mp (h3 c hm)⟩
theorem dat_fold {G : List Ob → Prop} {M0 : List Ob} (hG : G M0) (ds : List PyData) {ρ : Rho} {wg : WG} {k : WK} {Q : List U → List Ob → Prop} (f : PyData → List PyData) (acc0 : List PyData)
    (h1 : ∀ (x : PyData) (pre suf : List PyData) (R : List U → List Ob → Prop), ds = pre ++ x :: suf → R ((acc0 ++ (pre.map f).flatten ++ f x).map U.d) M0 → wg (.d x) ρ M0 fun ρ1 M1 => k ρ1 M1 ((acc0 ++ (pre.map f).flatten).map U.d) R)
    (h0 : Q ((acc0 ++ (ds.map f).flatten).map U.d) M0) : wLcGo G wg k ρ (ds.map U.d) (acc0.map U.d) M0 Q := by
  refine wLcGo_rec (fun us acc M => ∃ pre suf : List PyData, acc = (acc0 ++ (pre.map f).flatten).map U.d ∧ us = suf.map U.d ∧ M = M0 ∧ ds = pre ++ suf) ?_ ?_ _ _ _ ⟨[], ds, by simp, rfl, rfl, rfl⟩
  · rintro acc M ⟨pre, suf, rfl, h2, rfl, h3⟩
    cases suf with
    | cons c cs => cases h2
    | nil => rw [List.append_nil] at h3; subst h3; exact ⟨hG, h0⟩
  · rintro u us ih acc M ⟨pre, suf, rfl, h2, rfl, h3⟩
    cases suf with
    | nil => cases h2
    | cons c cs =>
      rw [List.map_cons] at h2
      injection h2 with e1 e2
      subst e1; subst e2
      exact ⟨hG, h1 c pre cs _ h3 (ih _ _ ⟨pre ++ [c], cs, by simp [List.append_assoc], rfl, rfl, by simp [h3]⟩)⟩
theorem flat_sing {α : Type} : ∀ l : List α, (l.map fun x => [x]).flatten = l
  | [] => rfl
  | x :: l => by rw [List.map_cons, List.flatten_cons, flat_sing l]; rfl
theorem dat_go {G : List Ob → Prop} {M0 : List Ob} (hG : G M0) (ds : List PyData) {ρ : Rho} {wg : WG} {k : WK} {Q : List U → List Ob → Prop} (f : PyData → PyData)
    (h1 : ∀ (x : PyData) (acc : List PyData) (R : List U → List Ob → Prop), x ∈ ds → acc.length < ds.length → R ((acc ++ [f x]).map U.d) M0 → wg (.d x) ρ M0 fun ρ1 M1 => k ρ1 M1 (acc.map U.d) R)
    (h0 : Q ((ds.map f).map U.d) M0) : wLcGo G wg k ρ (ds.map U.d) [] M0 Q := by
  have e : ∀ l : List PyData, (l.map fun x => [f x]).flatten = l.map f := fun l => by induction l with
    | nil => rfl
    | cons x l ih => rw [List.map_cons, List.flatten_cons, ih]; rfl
  refine dat_fold hG ds (fun x => [f x]) [] (fun x pre suf R h hR => ?_) (by rw [e]; exact h0)
  rw [e] at hR ⊢
  rw [List.nil_append] at hR ⊢
  exact h1 x _ R (by rw [h]; simp) (by rw [h]; simp) hR
theorem bools_of (ds : List PyData) (f : PyData → Bool) : bools (ds.map fun x => PyData.bool (f x)) = some (ds.map f) := by
  rw [← bools_map (ds.map f), List.map_map]; rfl
theorem fin_n {Qu : U → List Ob → Prop} {z z' : PyData} {M' : List Ob} (e : z' = z) (q : Qu (.d z) []) : Fin' [] Qu (.d z') M' := e ▸ fin_d (Nat.zero_le _) (fun o ho => by cases ho) q
def sp_is_whole : DSp := fun us M Q => ∃ (d : PyData) (lo hi : Int), us = [.d d, .d (.int lo), .d (.int hi)] ∧ M = [] ∧ noDict d = true ∧ Q (.d (.bool (whB lo hi d))) []
def sp_is_word : DSp := fun us M Q => ∃ (d : PyData), us = [.d d] ∧ M = [] ∧ noDict d = true ∧ Q (.d (.bool (whB 0 65535 d))) []
def sp_is_name : DSp := fun us M Q => ∃ (d : PyData), us = [.d d] ∧ M = [] ∧ Ok1 d ∧ Q (.d (.bool (nmB d))) []
theorem look_mem {z : Str} {i : Int} : ∀ {kvs : List (Str × Int)}, kvs.lookup z = some i → (z, i) ∈ kvs
  | [], h => by cases h
  | (k, j) :: kvs, h => by
    rw [List.lookup_cons] at h
    by_cases e : z = k
    · subst e
      rw [beq_self_eq_true] at h
      cases h
      exact List.mem_cons_self
    · have e1 : (z == k) = false := by simpa using e
      rw [e1] at h
      exact List.mem_cons_of_mem _ (look_mem h)
theorem kids_2 {o : Str} {i : Int} (h : wr_KIDS.lookup o = some i) : i ≤ 2 := by
  have e : ∀ p ∈ wr_KIDS, p.2 ≤ 2 := by decide
  exact e _ (look_mem h)
theorem look_skip {z : Str} {α : Type} {k : Str} {i : α} {l : List (Str × α)} (h : z ≠ k) : ((k, i) :: l).lookup z = l.lookup z := by
  rw [List.lookup_cons]
  have e1 : (z == k) = false := by simpa using h
  rw [e1]

/-- tame data, by how many things and how deep -/
structure Tk (W D : Nat) (x : PyData) : Prop where
  t : tame x = true
  c : cnt x ≤ W
  d : x.depth ≤ D
theorem Tk.mono {W D W' D' : Nat} {x : PyData} (h : Tk W D x) (h1 : W ≤ W') (h2 : D ≤ D') : Tk W' D' x := ⟨h.t, Nat.le_trans h.c h1, Nat.le_trans h.d h2⟩
def Al (D : Nat) (xs : List PyData) : Prop := ∀ x ∈ xs, tame x = true ∧ x.depth ≤ D
theorem cnt_pos (x : PyData) : 1 ≤ cnt x := by cases x <;> simp [cnt]
theorem cnts_len : ∀ xs : List PyData, xs.length ≤ cnts xs
  | [] => Nat.le_refl _
  | x :: xs => by
    have h1 := cnts_len xs
    have h2 := cnt_pos x
    show xs.length + 1 ≤ cnt x + cnts xs
    omega
theorem cnts_app : ∀ xs ys : List PyData, cnts (xs ++ ys) = cnts xs + cnts ys
  | [], ys => (Nat.zero_add _).symm
  | x :: xs, ys => by
    show cnt x + cnts (xs ++ ys) = cnt x + cnts xs + cnts ys
    rw [cnts_app xs ys]; omega
theorem cnts_one (x : PyData) : cnts [x] = cnt x := rfl
theorem cnts_rev (xs : List PyData) : cnts xs.reverse = cnts xs := by
  induction xs with
  | nil => rfl
  | cons x xs ih => rw [List.reverse_cons, cnts_app, ih, cnts_one]; show _ = cnt x + cnts xs; omega
theorem cnt_mem {xs : List PyData} {x : PyData} (h : x ∈ xs) : cnt x ≤ cnts xs := by
  induction xs with
  | nil => cases h
  | cons y ys ih =>
    show _ ≤ cnt y + cnts ys
    rcases List.mem_cons.mp h with rfl | h
    · omega
    · have := ih h; omega
theorem cnts_drop (n : Nat) : ∀ xs : List PyData, cnts (xs.drop n) ≤ cnts xs := by
  intro xs
  have e : cnts (xs.take n ++ xs.drop n) = cnts xs := by rw [List.take_append_drop]
  rw [cnts_app] at e; omega
theorem cnts_take (n : Nat) : ∀ xs : List PyData, cnts (xs.take n) ≤ cnts xs := by
  intro xs
  have e : cnts (xs.take n ++ xs.drop n) = cnts xs := by rw [List.take_append_drop]
  rw [cnts_app] at e; omega
theorem cnts_cut (xs : List PyData) (lo hi : Option Int) : cnts (cutD xs lo hi) ≤ cnts xs := Nat.le_trans (cnts_take _ _) (cnts_drop _ _)
theorem cnts_none : cnts [] = 0 := rfl
theorem cnts_cons (x : PyData) (xs : List PyData) : cnts (x :: xs) = cnt x + cnts xs := rfl
theorem cnt_tup (xs : List PyData) : cnt (.tuple xs) = cnts xs + 1 := rfl
theorem cnt_lst (xs : List PyData) : cnt (.list xs) = cnts xs + 1 := rfl
theorem cnt_int (i : Int) : cnt (.int i) = 1 := rfl
theorem cnt_str (i : Str) : cnt (.str i) = 1 := rfl
theorem cnt_non : cnt .none = 1 := rfl
theorem cut_in {α : Type} {ds : List α} {lo hi : Option Int} {x : α} (h : x ∈ cutD ds lo hi) : x ∈ ds := List.mem_of_mem_drop (List.mem_of_mem_take h)
theorem al_app {D : Nat} {A B : List PyData} (h1 : Al D A) (h2 : Al D B) : Al D (A ++ B) := fun y hy => (List.mem_append.mp hy).elim (h1 y) (h2 y)
theorem al_one {D : Nat} {z : PyData} (h : tame z = true) (hd : z.depth ≤ D) : Al D [z] := fun y hy => by rw [List.mem_singleton.mp hy]; exact ⟨h, hd⟩
theorem al_cut {D : Nat} {A : List PyData} (h : Al D A) (lo hi : Option Int) : Al D (cutD A lo hi) := fun y hy => h y (cut_in hy)
theorem al_rev {D : Nat} {A : List PyData} (h : Al D A) : Al D A.reverse := fun y hy => h y (List.mem_reverse.mp hy)
theorem al_mono {D D' : Nat} {A : List PyData} (h : Al D A) (hd : D ≤ D') : Al D' A := fun y hy => ⟨(h y hy).1, Nat.le_trans (h y hy).2 hd⟩
theorem al_nil {D : Nat} : Al D [] := fun y hy => by cases hy
theorem al_cons {D : Nat} {x : PyData} {A : List PyData} (h1 : tame x = true) (hd : x.depth ≤ D) (h2 : Al D A) : Al D (x :: A) := fun y hy => (List.mem_cons.mp hy).elim (fun e => e ▸ ⟨h1, hd⟩) (h2 y)
theorem tk_tup {W D : Nat} {xs : List PyData} (h : Al D xs) (hc : cnts xs + 1 ≤ W) (hW : W ≤ 10000) : Tk W (D + 1) (.tuple xs) := by
  have hl := cnts_len xs
  refine ⟨?_, hc, ?_⟩
  · show (decide (xs.length ≤ 10000) && tames xs) = true
    rw [tames_all xs fun x hx => (h x hx).1, decide_eq_true (by omega)]; rfl
  · have e : (PyData.tuple xs).depth = PyData.depthAll xs + 1 := rfl
    have := depths_le (b := D) xs fun x hx => (h x hx).2
    omega
theorem tk_lst {W D : Nat} {xs : List PyData} (h : Al D xs) (hc : cnts xs + 1 ≤ W) (hW : W ≤ 10000) : Tk W (D + 1) (.list xs) := by
  obtain ⟨a, b, c⟩ := tk_tup h hc hW
  exact ⟨a, b, c⟩
theorem tames_mem {xs : List PyData} (h : tames xs = true) : ∀ x ∈ xs, tame x = true := by
  induction xs with
  | nil => intro x hx; cases hx
  | cons y ys ih =>
    have h' : tame y = true ∧ tames ys = true := by simpa [tames] using h
    intro x hx
    rcases List.mem_cons.mp hx with rfl | hx
    · exact h'.1
    · exact ih h'.2 x hx
theorem tk_parts {W D : Nat} {xs : List PyData} (h : Tk W D (.tuple xs)) : Al (D - 1) xs ∧ cnts xs + 1 ≤ W ∧ 1 ≤ D := by
  have h' : xs.length ≤ 10000 ∧ tames xs = true := by simpa [tame] using h.t
  have e : (PyData.tuple xs).depth = PyData.depthAll xs + 1 := rfl
  have hd := h.d
  refine ⟨fun x hx => ⟨tames_mem h'.2 x hx, ?_⟩, h.c, by omega⟩
  have := depths_mem hx
  omega
theorem tk_partsL {W D : Nat} {xs : List PyData} (h : Tk W D (.list xs)) : Al (D - 1) xs ∧ cnts xs + 1 ≤ W ∧ 1 ≤ D := tk_parts (xs := xs) ⟨h.t, h.c, h.d⟩
mutual
theorem tam_tame : ∀ d : PyData, tame d = true → tam 10000 d = true
  | .none, _ => rfl
  | .bool _, _ => rfl
  | .int _, _ => rfl
  | .str _, h => h
  | .list xs, h => by
    have h' : xs.length ≤ 10000 ∧ tames xs = true := by simpa [tame] using h
    show (decide (xs.length ≤ 10000) && tams 10000 xs) = true
    rw [tams_tames xs h'.2, decide_eq_true h'.1]; rfl
  | .tuple xs, h => by
    have h' : xs.length ≤ 10000 ∧ tames xs = true := by simpa [tame] using h
    show (decide (xs.length ≤ 10000) && tams 10000 xs) = true
    rw [tams_tames xs h'.2, decide_eq_true h'.1]; rfl
  | .dict _, h => by simp [tame] at h
theorem tams_tames : ∀ xs : List PyData, tames xs = true → tams 10000 xs = true
  | [], _ => rfl
  | x :: xs, h => by
    have h' : tame x = true ∧ tames xs = true := by simpa [tames] using h
    simp [tams, tam_tame x h'.1, tams_tames xs h'.2]
end
theorem tame_ok1 {d : PyData} (h : tame d = true) : Ok1 d := tam_ok1 (tam_tame d h)
theorem tame_nd {d : PyData} (h : tame d = true) : noDict d = true := tam_nd (tam_tame d h)
theorem tk_shape {W D : Nat} {x : PyData} (h : Tk W D x) (hD : D ≤ 60) : SeqAt.shaped x = true := tam_shaped (tam_tame x h.t) (Nat.le_trans h.d (by omega))
theorem pickP {P : PyData → Prop} (ds : List PyData) (h : ∀ x ∈ ds, P x) (i : Int) (h0 : 0 ≤ i) (h1 : i < ds.length) : ∃ d, atI ds i = some d ∧ P d := by
  have hj : i.toNat < ds.length := by omega
  refine ⟨ds[i.toNat], ?_, h _ (List.getElem_mem hj)⟩
  unfold atI ixN
  rw [if_pos h0, if_pos h1]
  simp [hj]
theorem pickN {P : PyData → Prop} {ds : List PyData} (hp : ∀ x ∈ ds, P x) {a : Nat} (h : a < ds.length) : ∃ d, atI ds ((a : Int) - 1) = some d ∧ P d := by
  by_cases h0 : a = 0
  · subst h0
    refine ⟨ds[ds.length - 1], ?_, hp _ (List.getElem_mem (by omega))⟩
    unfold atI ixN
    rw [if_neg (by omega), if_pos (by omega)]
    have e : ((0 : Nat) : Int) - 1 + (ds.length : Int) = ((ds.length - 1 : Nat) : Int) := by omega
    simp only [e, Int.toNat_natCast]
    exact List.getElem?_eq_getElem (by omega)
  · exact pickP ds hp _ (by omega) (by omega)
/-- a list of small things -/
def small (ds : List PyData) : Prop := ∀ x ∈ ds, tame x = true ∧ cnt x ≤ 6 ∧ x.depth ≤ 3
instance (ds : List PyData) : Decidable (small ds) := by unfold small; infer_instance
theorem tk_small {x : PyData} {W D : Nat} (h : tame x = true ∧ cnt x ≤ 6 ∧ x.depth ≤ 3) (hW : 6 ≤ W) (hD : 3 ≤ D) : Tk W D x := ⟨h.1, by omega, by omega⟩
theorem cuts_two (ks : List PyData) (sp : Nat) : cnts (cutD ks none (some (sp : Int))) + cnts (cutD ks (some ((sp : Int) + 1)) none) ≤ cnts ks := by
  have e1 : cutD ks none (some (sp : Int)) = ks.take sp := by
    unfold cutD
    rw [HT.sIx_none, show HT.sIx ks.length ks.length (some (sp : Int)) = min sp ks.length from HT.sIx_nat _ _ sp, Nat.sub_zero, List.drop_zero]
    rw [Nat.min_comm, ← List.take_take]
    exact List.take_of_length_le (by rw [List.length_take]; omega)
  have e2 : cutD ks (some ((sp : Int) + 1)) none = ks.drop (sp + 1) := by
    unfold cutD
    rw [HT.sIx_none, show HT.sIx ks.length 0 (some ((sp : Int) + 1)) = min (sp + 1) ks.length from HT.sIx_nat _ 0 (sp + 1)]
    by_cases h : sp + 1 ≤ ks.length
    · rw [Nat.min_eq_left h, ← List.length_drop, List.take_length]
    · rw [Nat.min_eq_right (by omega), Nat.sub_self, List.take_zero, List.drop_eq_nil_iff.mpr (by omega)]
  have e3 : cnts (ks.take sp ++ ks.drop sp) = cnts ks := by rw [List.take_append_drop]
  rw [cnts_app] at e3
  have e4 := cnts_drop 1 (ks.drop sp)
  rw [List.drop_drop] at e4
  rw [e1, e2]
  omega
theorem cuts_all (ks : List PyData) (sp : Nat) : cnts (cutD ks none (some (sp : Int))) + cnts (cutD ks (some (sp : Int)) none) ≤ cnts ks := by
  have e1 : cutD ks none (some (sp : Int)) = ks.take sp := by
    unfold cutD
    rw [HT.sIx_none, show HT.sIx ks.length ks.length (some (sp : Int)) = min sp ks.length from HT.sIx_nat _ _ sp, Nat.sub_zero, List.drop_zero]
    rw [Nat.min_comm, ← List.take_take]
    exact List.take_of_length_le (by rw [List.length_take]; omega)
  have e2 : cutD ks (some (sp : Int)) none = ks.drop sp := by
    unfold cutD
    rw [HT.sIx_none, show HT.sIx ks.length 0 (some (sp : Int)) = min sp ks.length from HT.sIx_nat _ 0 sp]
    by_cases h : sp ≤ ks.length
    · rw [Nat.min_eq_left h, ← List.length_drop, List.take_length]
    · rw [Nat.min_eq_right (by omega), Nat.sub_self, List.take_zero, List.drop_eq_nil_iff.mpr (by omega)]
  have e3 : cnts (ks.take sp ++ ks.drop sp) = cnts ks := by rw [List.take_append_drop]
  rw [cnts_app] at e3
  rw [e1, e2]
  omega
theorem at_get {α : Type} {ds : List α} {a : Nat} {z : α} (h : atI ds (a : Int) = some z) : ds[a]? = some z := by
  unfold atI ixN at h
  rw [if_pos (by omega)] at h
  by_cases hl : (a : Int) < (ds.length : Int)
  · rw [if_pos hl] at h
    simpa using h
  · rw [if_neg hl] at h; cases h
theorem cuts_mid {ks : List PyData} {sp : Nat} {z : PyData} (h : ks[sp]? = some z) : cnts (cutD ks none (some (sp : Int))) + cnt z + cnts (cutD ks (some ((sp : Int) + 1)) none) ≤ cnts ks := by
  have hlt := (List.getElem?_eq_some_iff.mp h).1
  have hz : ks[sp] = z := (List.getElem?_eq_some_iff.mp h).2
  have e1 : cutD ks none (some (sp : Int)) = ks.take sp := by
    unfold cutD
    rw [HT.sIx_none, show HT.sIx ks.length ks.length (some (sp : Int)) = min sp ks.length from HT.sIx_nat _ _ sp, Nat.sub_zero, List.drop_zero]
    rw [Nat.min_comm, ← List.take_take]
    exact List.take_of_length_le (by rw [List.length_take]; omega)
  have e2 : cutD ks (some ((sp : Int) + 1)) none = ks.drop (sp + 1) := by
    unfold cutD
    rw [HT.sIx_none, show HT.sIx ks.length 0 (some ((sp : Int) + 1)) = min (sp + 1) ks.length from HT.sIx_nat _ 0 (sp + 1)]
    rw [Nat.min_eq_left (by omega), ← List.length_drop, List.take_length]
  have e3 : cnts (ks.take sp ++ ks.drop sp) = cnts ks := by rw [List.take_append_drop]
  rw [cnts_app, List.drop_eq_getElem_cons hlt, hz, cnts_cons] at e3
  rw [e1, e2]
  omega
theorem tame_i {i : Int} (h : i.natAbs ≤ 20000) : tame (.int i) = true ∧ cnt (.int i) ≤ 6 ∧ (PyData.int i).depth ≤ 3 := ⟨show decide (i.natAbs < 10 ^ 100) = true from decide_eq_true (by omega), by rw [cnt_int]; omega, by show 0 ≤ 3; decide⟩
theorem al_small {D : Nat} {x : PyData} (h : tame x = true ∧ cnt x ≤ 6 ∧ x.depth ≤ 3) (hD : 3 ≤ D) : Al D [x] := al_one h.1 (by omega)
theorem al3 {D : Nat} {a b c : PyData} (h1 : tame a = true ∧ a.depth ≤ D) (h2 : tame b = true ∧ b.depth ≤ D) (h3 : tame c = true ∧ c.depth ≤ D) : Al D [a, b, c] := al_cons h1.1 h1.2 (al_cons h2.1 h2.2 (al_one h3.1 h3.2))
def anyL : List PyData := [.none, .bool true, .bool false, .int 0, .int 1, .int (-1), .int 65535, .int 65536, .int (10 ^ 40), .str "", .str "num", .str "set", .str "Add", .str "abcdefghi", .str "a b", .list [], .tuple [],
  .tuple [.int 0], .list [.int 0], .tuple [.str "num", .int 5, .tuple []], .tuple [.none, .list [.int 1]], .str "a", .str "put", .str "is"]
theorem anyL_small : small anyL := by decide +kernel
def sp_any : DSp := fun us M Q => ∃ g h : Int, us = [.p 0] ∧ M = [bagO g h] ∧ bagOk g h ∧ ∀ d g' h', (tame d = true ∧ cnt d ≤ 6 ∧ d.depth ≤ 3) → bagOk g' h' → Q (.d d) [bagO g' h']
/-! how small the data are -/
theorem name_tame {s : Str} (h : nameOk s) : tame (.str s) = true := by
  have e : PyData.strOk s = true := by
    have := name_shaped h
    simpa [SeqAt.shaped, PyData.canLay0, PyData.depth] using this
  have l : s.length ≤ 8 := by show s.cps.size ≤ 8; rw [← Array.length_toList]; exact h.2.1
  simp [tame, e]; omega
theorem int_tame {i : Int} (h0 : 0 ≤ i) (h1 : i < 1000000) : tame (.int i) = true := by
  simp only [tame]; exact decide_eq_true (by omega)
theorem nat_tame {i : Nat} (h1 : i < 1000000) : tame (.int (i : Int)) = true := int_tame (by omega) (by omega)
def opStrs : List Str := ["num", "var", "load", "neg", "not", "add", "sub", "mul", "and", "or", "xor", "put", "set"]
theorem op_tame : ∀ o ∈ opStrs, tame (.str o) = true := by decide +kernel
theorem ops1_in : ∀ o ∈ ops1, o ∈ opStrs := by decide
theorem ops2_in : ∀ o ∈ ops2, o ∈ opStrs := by decide
theorem nd_tame {op : Str} {mark : PyData} {kids : List Nat} (h1 : op ∈ opStrs) (h2 : tame mark = true) (h3 : kids.length ≤ 2) (h4 : ∀ k ∈ kids, k < 1000000) : tame (Nd.enc ⟨op, mark, kids⟩) = true := by
  have e : tames (encKids kids) = true := tames_all _ fun x hx => by
    obtain ⟨k, hk, rfl⟩ := List.mem_map.mp hx
    exact nat_tame (h4 k hk)
  simp [Nd.enc, tame, tames, e, h2, len_kids] 
  exact ⟨by simpa [tame] using op_tame op h1, by omega⟩
theorem good_tame {l : Nat} {n : Nd} (hl : l < 1000000) (h : GoodNd l n) : tame n.enc = true ∧ cnt n.mark = 1 ∧ n.mark.depth = 0 ∧ n.kids.length ≤ 2 := by
  obtain ⟨op, mark, kids⟩ := n
  rcases h with ⟨a, ⟨w, b, w0, w1⟩, c⟩ | ⟨a, ⟨s, b, hs⟩, c⟩ | ⟨a, b, x, c, h1⟩ | ⟨a, b, x, y, c, h1, h2⟩ <;> dsimp only at a b c <;> subst b <;> subst c
  · exact ⟨nd_tame (by rw [a]; decide) (int_tame w0 (by omega)) (by simp) (by simp), rfl, rfl, by simp⟩
  · exact ⟨nd_tame (by rw [a]; decide) (name_tame hs) (by simp) (by simp), rfl, rfl, by simp⟩
  · exact ⟨nd_tame (ops1_in _ a) rfl (by simp) (by simp; omega), rfl, rfl, by simp⟩
  · exact ⟨nd_tame (ops2_in _ a) rfl (by simp) (by simp; omega), rfl, rfl, by simp⟩
theorem deed_tame {l : Nat} {n : Nd} (hl : l < 1000000) (h : DeedOk l n) : tame n.enc = true ∧ cnt n.mark = 1 ∧ n.mark.depth = 0 ∧ n.kids.length ≤ 2 := by
  obtain ⟨op, mark, kids⟩ := n
  rcases h with ⟨a, b, x, y, c, h1, h2⟩ | ⟨a, ⟨s, b, hs⟩, x, c, h1⟩ <;> dsimp only at a b c <;> subst b <;> subst c
  · exact ⟨nd_tame (by rw [a]; decide) rfl (by simp) (by simp; omega), rfl, rfl, by simp⟩
  · exact ⟨nd_tame (by rw [a]; decide) (name_tame hs) (by simp) (by simp; omega), rfl, rfl, by simp⟩
theorem cnt_kids (ks : List Nat) : cnts (encKids ks) = ks.length ∧ PyData.depthAll (encKids ks) = 0 := by
  induction ks with
  | nil => exact ⟨rfl, rfl⟩
  | cons k ks ih =>
    obtain ⟨a, b⟩ := ih
    refine ⟨?_, ?_⟩
    · show cnt (.int k) + cnts (encKids ks) = ks.length + 1
      rw [a]; simp [cnt]; omega
    · show max (PyData.int k).depth (PyData.depthAll (encKids ks)) = 0
      rw [b]; simp [PyData.depth]
theorem nd_cnt {n : Nd} (h1 : cnt n.mark = 1) (h2 : n.mark.depth = 0) (h3 : n.kids.length ≤ 2) : cnt n.enc ≤ 6 ∧ n.enc.depth ≤ 2 := by
  obtain ⟨a, b⟩ := cnt_kids n.kids
  simp only [Nd.enc, cnt, cnts, PyData.depth, PyData.depthAll, h1, h2, a, b]
  omega
theorem web_tame {parts : List Nd} {deed : Nd} (hp : PartOk parts) (hd : DeedOk parts.length deed) (hl : parts.length + 1 ≤ 1000) : tame (encWeb (parts ++ [deed])) = true ∧ cnt (encWeb (parts ++ [deed])) ≤ 6 * (parts.length + 1) + 1 ∧ (encWeb (parts ++ [deed])).depth ≤ 3 := by
  have all : ∀ x ∈ (parts ++ [deed]).map Nd.enc, tame x = true ∧ cnt x ≤ 6 ∧ x.depth ≤ 2 := by
    intro x hx
    obtain ⟨n, hn, rfl⟩ := List.mem_map.mp hx
    rcases List.mem_append.mp hn with h | h
    · obtain ⟨i, hi, e⟩ := List.getElem_of_mem h
      obtain ⟨a, b, c, d⟩ := good_tame (l := i) (by omega) (hp i n (by rw [List.getElem?_eq_getElem hi, e]))
      exact ⟨a, nd_cnt b c d⟩
    · rw [List.mem_singleton.mp h]
      obtain ⟨a, b, c, d⟩ := deed_tame (l := parts.length) (by omega) hd
      exact ⟨a, nd_cnt b c d⟩
  have t := tames_all _ fun x hx => (all x hx).1
  have c := cnts_le (b := 6) _ fun x hx => (all x hx).2.1
  have d := depths_le (b := 2) _ fun x hx => (all x hx).2.2
  rw [List.length_map, List.length_append, List.length_singleton] at c
  refine ⟨?_, ?_, ?_⟩
  · unfold encWeb tame
    rw [t, Bool.and_true]
    exact decide_eq_true (by simp; omega)
  · unfold encWeb cnt; omega
  · unfold encWeb PyData.depth; omega

def isNo : PyData → Bool
  | .none => true
  | _ => false
theorem isNo_u (d : PyData) : isNoneU (.d d) = some (isNo d) := by cases d <;> rfl
def markB (op : Str) (m : PyData) : Bool := match wr_MARKS.lookup op with
  | none => isNo m
  | some t => if decide (t = "word") then whB 0 65535 m else nmB m
def sp_is_mark : DSp := fun us M Q => ∃ (op : Str) (d : PyData), us = [.d (.str op), .d d] ∧ M = [] ∧ Ok1 d ∧ Q (.d (.bool (markB op d))) []
def ndB (at_ : Int) : PyData → Bool
  | .tuple [.str op, m, .tuple ks] => match wr_KIDS.lookup op with
    | none => false
    | some n => markB op m && (decide ((ks.length : Int) = n) && ks.all (whB 0 (at_ - 1)))
  | _ => false
def sp_is_node : DSp := fun us M Q => ∃ (d : PyData) (a : Int), us = [.d d, .d (.int a)] ∧ M = [] ∧ tame d = true ∧ Q (.d (.bool (ndB a d))) []
theorem tame_in {xs : List PyData} (h : tame (.tuple xs) = true) : xs.length ≤ 10000 ∧ ∀ x ∈ xs, tame x = true := by
  have h' : xs.length ≤ 10000 ∧ tames xs = true := by simpa [tame] using h
  exact ⟨h'.1, tames_mem h'.2⟩
theorem starA {α : Type} (x : α) (xs : List α) : List.take ((x :: xs).length - (2 - 1)) (List.drop 1 (x :: xs)) = xs := by simp
structure Nx where
  op : Str
  mark : PyData
  kids : List Int
def Nx.enc (n : Nx) : PyData := .tuple [.str n.op, n.mark, .tuple (n.kids.map PyData.int)]
def Nx.ok (at_ : Int) (n : Nx) : Prop := ∃ m : Int, wr_KIDS.lookup n.op = some m ∧ markB n.op n.mark = true ∧ (n.kids.length : Int) = m ∧ ∀ k ∈ n.kids, 0 ≤ k ∧ k ≤ at_ - 1
def nxKids (ns : List Nx) : List Int := (ns.map Nx.kids).flatten
theorem whB_int {lo hi : Int} {d : PyData} (h : whB lo hi d = true) : ∃ i, d = .int i ∧ lo ≤ i ∧ i ≤ hi := by
  cases d with
  | int i => exact ⟨i, rfl, by simpa [whB] using h⟩
  | _ => cases h
theorem whB_ints {lo hi : Int} : ∀ {ks : List PyData}, ks.all (whB lo hi) = true → ∃ is : List Int, ks = is.map PyData.int ∧ ∀ i ∈ is, lo ≤ i ∧ i ≤ hi
  | [], _ => ⟨[], rfl, fun i h => (by cases h)⟩
  | k :: ks, h => by
    rw [List.all_cons, Bool.and_eq_true] at h
    obtain ⟨i, rfl, h1, h2⟩ := whB_int h.1
    obtain ⟨is, rfl, h3⟩ := whB_ints h.2
    exact ⟨i :: is, rfl, fun j hj => (List.mem_cons.mp hj).elim (fun e => e ▸ ⟨h1, h2⟩) (h3 j)⟩
theorem ints_whB {lo hi : Int} {is : List Int} (h : ∀ i ∈ is, lo ≤ i ∧ i ≤ hi) : (is.map PyData.int).all (whB lo hi) = true := by
  rw [List.all_map, List.all_eq_true]
  intro i hi'
  obtain ⟨a, b⟩ := h i hi'
  show (decide (lo ≤ i) && decide (i ≤ hi)) = true
  rw [decide_eq_true a, decide_eq_true b]; rfl
theorem ndB_nx {a : Int} {d : PyData} (h : ndB a d = true) : ∃ n : Nx, d = n.enc ∧ n.ok a := by
  unfold ndB at h
  split at h
  · rename_i op m ks
    split at h
    · cases h
    · rename_i n el
      rw [Bool.and_eq_true, Bool.and_eq_true] at h
      obtain ⟨is, rfl, hi⟩ := whB_ints h.2.2
      exact ⟨⟨op, m, is⟩, rfl, n, el, h.1, by have := of_decide_eq_true h.2.1; rw [List.length_map] at this; exact this, hi⟩
  · cases h
theorem nx_ndB {a : Int} {n : Nx} (h : n.ok a) : ndB a n.enc = true := by
  obtain ⟨m, h1, h2, h3, h4⟩ := h
  show (match wr_KIDS.lookup n.op with
    | none => false
    | some m => markB n.op n.mark && (decide (((n.kids.map PyData.int).length : Int) = m) && (n.kids.map PyData.int).all (whB 0 (a - 1)))) = true
  rw [h1]
  simp only [h2, List.length_map, decide_eq_true h3, ints_whB h4]
  rfl
def numbered (ds : List PyData) : List PyData := ds.zipIdx.map fun p => .tuple [.int (p.2 : Nat), p.1]
theorem counted_map (ds : List PyData) : counted ds = (numbered ds).map U.d := by unfold counted numbered; rw [List.map_map]; rfl
theorem numbered_mem {ds : List PyData} {x : PyData} (h : x ∈ numbered ds) : ∃ (i : Nat) (d : PyData), x = .tuple [.int (i : Int), d] ∧ ds[i]? = some d := by
  obtain ⟨⟨d, i⟩, h1, rfl⟩ := List.mem_map.mp h
  exact ⟨i, d, rfl, List.mem_zipIdx_iff_getElem?.mp h1⟩
theorem mem_numbered {ds : List PyData} {i : Nat} {d : PyData} (h : ds[i]? = some d) : .tuple [.int (i : Int), d] ∈ numbered ds := List.mem_map.mpr ⟨(d, i), List.mem_zipIdx_iff_getElem?.mpr h, rfl⟩
theorem numbered_len (ds : List PyData) : (numbered ds).length = ds.length := by simp [numbered]
def nd1 : PyData → Bool
  | .tuple [.int i, d] => ndB i d
  | _ => false
def ndsB (ds : List PyData) : Bool := (numbered ds).all nd1
theorem ndsB_iff {ds : List PyData} : ndsB ds = true ↔ ∀ (i : Nat) (d : PyData), ds[i]? = some d → ndB (i : Int) d = true := by
  unfold ndsB
  rw [List.all_eq_true]
  constructor
  · intro h i d hd
    exact h _ (mem_numbered hd)
  · intro h x hx
    obtain ⟨i, d, rfl, hd⟩ := numbered_mem hx
    exact h i d hd
def NxOk (ns : List Nx) : Prop := ∀ (i : Nat) (n : Nx), ns[i]? = some n → n.ok (i : Int)
theorem ndsB_nx {ds : List PyData} (h : ndsB ds = true) : ∃ ns : List Nx, ds = ns.map Nx.enc ∧ NxOk ns := by
  rw [ndsB_iff] at h
  have go : ∀ (ds : List PyData) (o : Nat), (∀ (i : Nat) (d : PyData), ds[i]? = some d → ndB ((o + i : Nat) : Int) d = true) → ∃ ns : List Nx, ds = ns.map Nx.enc ∧ ∀ (i : Nat) (n : Nx), ns[i]? = some n → n.ok ((o + i : Nat) : Int) := by
    intro ds
    induction ds with
    | nil => intro o _; exact ⟨[], rfl, fun i n h => by simp at h⟩
    | cons d ds ih =>
      intro o h
      obtain ⟨n, rfl, hn⟩ := ndB_nx (h 0 d rfl)
      obtain ⟨ns, rfl, hns⟩ := ih (o + 1) fun i d hd => by
        have := h (i + 1) d (by simpa using hd)
        rw [show o + 1 + i = o + (i + 1) by omega]; exact this
      refine ⟨n :: ns, rfl, fun i m hm => ?_⟩
      cases i with
      | zero => simp at hm; subst hm; exact hn
      | succ i =>
        have := hns i m (by simpa using hm)
        rw [show o + 1 + i = o + (i + 1) by omega] at this; exact this
  obtain ⟨ns, e, hns⟩ := go ds 0 fun i d hd => by rw [Nat.zero_add]; exact h i d hd
  exact ⟨ns, e, fun i n hn => by have := hns i n hn; rw [Nat.zero_add] at this; exact this⟩
theorem nx_ndsB {ns : List Nx} (h : NxOk ns) : ndsB (ns.map Nx.enc) = true := ndsB_iff.mpr fun i d hd => by
  rw [List.getElem?_map] at hd
  cases e : ns[i]? with
  | none => rw [e] at hd; cases hd
  | some n => rw [e] at hd; cases hd; exact nx_ndB (h i n e)
theorem kids_le {ns : List Nx} (h : NxOk ns) : ∀ n ∈ ns, n.kids.length ≤ 2 := fun n hn => by
  obtain ⟨i, hi, e⟩ := List.getElem_of_mem hn
  obtain ⟨m, h1, _, h3, _⟩ := h i n (by rw [List.getElem?_eq_getElem hi, e])
  have := kids_2 h1
  omega
def sp_all_kids : DSp := fun us M Q => ∃ ns : List Nx, us = [.d (.list (ns.map Nx.enc))] ∧ M = [] ∧ ns.length ≤ 1000 ∧ (∀ n ∈ ns, n.kids.length ≤ 2) ∧ Q (.d (.list ((nxKids ns).map PyData.int))) []
theorem nxKids_map (ns : List Nx) : (nxKids ns).map PyData.int = ((ns.map Nx.enc).map fun d => match d with | .tuple [_, _, .tuple ks] => ks | _ => []).flatten := by
  induction ns with
  | nil => rfl
  | cons n ns ih =>
    simp only [nxKids, List.map_cons, List.flatten_cons, List.map_append] at ih ⊢
    rw [ih]; rfl
theorem nxKids_len {ns : List Nx} (h : ∀ n ∈ ns, n.kids.length ≤ 2) : (nxKids ns).length ≤ 2 * ns.length := by
  induction ns with
  | nil => exact Nat.le_refl _
  | cons n ns ih =>
    have h1 := h n List.mem_cons_self
    have h2 := ih fun m hm => h m (List.mem_cons_of_mem _ hm)
    simp only [nxKids, List.map_cons, List.flatten_cons, List.length_append, List.length_cons] at h2 ⊢
    omega
def deedD : PyData → Bool
  | .tuple (.str o :: _) => decide (o ∈ wr_DEEDS)
  | _ => false
def kidsD : PyData → List Int
  | .tuple [_, _, .tuple ks] => ks.filterMap fun k => match k with | .int i => some i | _ => none
  | _ => []
def webB : PyData → Bool
  | .list ds => decide (2 ≤ ds.length) && (decide (ds.length ≤ 40) && (ndsB ds && ((ds.getLast?.map deedD).getD false && (!(ds.dropLast.any deedD) && decide ((firsts (ds.map kidsD).flatten).length = ds.length - 1)))))
  | _ => false
def sp_is_web : DSp := fun us M Q => ∃ d : PyData, us = [.d d] ∧ M = [] ∧ tame d = true ∧ Q (.d (.bool (webB d))) []
theorem kidsD_enc (n : Nx) : kidsD n.enc = n.kids := by
  show (n.kids.map PyData.int).filterMap _ = _
  rw [List.filterMap_map]
  exact List.filterMap_some
theorem kidsD_all (ns : List Nx) : ((ns.map Nx.enc).map kidsD).flatten = nxKids ns := by
  unfold nxKids
  rw [List.map_map]
  congr 1
  exact List.map_congr_left fun n _ => kidsD_enc n
theorem tame_inL {xs : List PyData} (h : tame (.list xs) = true) : xs.length ≤ 10000 ∧ ∀ x ∈ xs, tame x = true := by
  have h' : xs.length ≤ 10000 ∧ tames xs = true := by simpa [tame] using h
  exact ⟨h'.1, tames_mem h'.2⟩
theorem star0a {α : Type} (xs : List α) (x : α) : List.take ((xs ++ [x]).length - (2 - 1)) (List.drop 0 (xs ++ [x])) = xs := by simp
theorem star0b {α : Type} (xs : List α) (x : α) : List.drop ((xs ++ [x]).length - (2 - 1 - 0)) (xs ++ [x]) = [x] := by simp
/-! texts by their signs -/
def mk (l : List Nat) : Str := ⟨l.toArray⟩
theorem mk_eq {x : Str} {l : List Nat} (h : TL.tl x = l) : x = mk l := by
  obtain ⟨⟨a⟩⟩ := x
  have h' : a = l := h
  subst h'; rfl
theorem tl_mk (l : List Nat) : TL.tl (mk l) = l := rfl
theorem mk_len (l : List Nat) : (mk l).length = l.length := rfl
def dg (i : Int) : List Nat := TL.tl (itx i)
theorem dg_len {i : Int} (h0 : 0 ≤ i) (h1 : i < 1000000) : (dg i).length ≤ 7 := by
  have := int_text_length_le10 (a := i) (k := 6) (by decide) (by omega)
  have e : (itx i).length = (toString i).length := PySem.ofString_length _
  have e2 : (dg i).length = (itx i).length := Array.length_toList
  omega
theorem joinL_le (s : List Nat) : ∀ ls : List (List Nat), (TL.joinL s ls).length ≤ (ls.map fun l => l.length + s.length).sum
  | [] => Nat.zero_le _
  | [a] => by simp [TL.joinL]
  | a :: b :: r => by
    have := joinL_le s (b :: r)
    rw [TL.joinL]
    simp only [List.length_append, List.map_cons, List.sum_cons] at this ⊢
    omega
theorem tl_len (x : Str) : (TL.tl x).length = x.length := Array.length_toList
theorem texts_str : ∀ ss : List Str, texts (ss.map PyData.str) = some ss
  | [] => rfl
  | s :: ss => by rw [List.map_cons]; unfold texts; rw [texts_str ss]
theorem tl_app (x y : Str) : TL.tl (x ++ y) = TL.tl x ++ TL.tl y := TL.tl_append x y
theorem tl_joins (s : Str) (ls : List (List Nat)) : TL.tl (Txt.join s (ls.map mk)) = TL.joinL (TL.tl s) ls := by
  rw [TL.join_eq]
  refine (TL.tl_join s (ls.map mk)).trans ?_
  congr 1
  rw [List.map_map]
  exact List.map_id' ls
theorem starS {α : Type} (x : α) (xs : List α) : List.take ((x :: xs).length - (2 - 1)) (List.drop 1 (x :: xs)) = xs := by simp
theorem str_ext {x y : Str} (h : TL.tl x = TL.tl y) : x = y := (mk_eq h).trans (mk_eq rfl).symm
theorem emp_app (x : Str) : Str.empty ++ x = x := str_ext (by rw [tl_app]; rfl)
theorem small_log {w : Int} (h0 : 0 ≤ w) (h1 : w < 1000000) : w.natAbs.log2 < 1920 := of_decide_eq_true (tame_ok _ (int_tame h0 h1)).1
theorem fin_d0e' {M' : List Ob} {Qu : U → List Ob → Prop} {z z' : Str} (e : z' = z) (q : Qu (.d (.str z)) []) : Fin' [] Qu (.d (.str z')) M' := fin_d0 (e ▸ q)

/-! reading texts by their signs -/
def figsL (l : List Nat) : Bool := l.all fun c => decide (48 ≤ c ∧ c ≤ 57)
/-- a plain number's worth, -1 for others -/
def pnumL (l : List Nat) : Int := if 1 ≤ l.length ∧ l.length ≤ 5 ∧ figsL l = true ∧ ¬ (l ≠ [48] ∧ l.head? = some 48) then (NumText.digitsVal l : Nat) else -1
/-- the parts between the commas outside of brackets -/
def par1 (c : Nat) : Int := (if decide (c = 40) = true then 1 else 0) - (if decide (c = 41) = true then 1 else 0)
def prL : List Nat → List Nat → Int → List (List Nat)
  | [], cur, _ => [cur]
  | c :: cs, cur, d => if c = 44 ∧ d + par1 c = 0 then cur :: prL cs [] (d + par1 c) else prL cs (cur ++ [c]) (d + par1 c)
theorem sub_pre (x y : Str) : Builtin.Str.subAt x y 0 = TL.pre (TL.tl y) (TL.tl x) := by
  rw [PySem.StrLaws.subAt_eq, List.drop_zero]
  show ((TL.tl x).take y.length == TL.tl y) = ((TL.tl x).take (TL.tl y).length == TL.tl y)
  rw [TL.len_tl]
theorem pre_len {S l : List Nat} (h : TL.pre S l = true) : S.length ≤ l.length := by
  have e : l.take S.length = S := eq_of_beq h
  have := congrArg List.length e
  rw [List.length_take] at this
  omega
theorem starts_pre (x y : Str) : Txt.startswith x y = TL.pre (TL.tl y) (TL.tl x) := by
  unfold Txt.startswith
  simp only [Nat.zero_add, sub_pre]
  cases h : TL.pre (TL.tl y) (TL.tl x) with
  | false => simp
  | true =>
    have := pre_len h
    have e : y.length ≤ x.length := by rw [TL.len_tl, TL.len_tl]; exact this
    rw [decide_eq_true e]; rfl
def endL (S l : List Nat) : Bool := decide (S.length ≤ l.length) && (l.drop (l.length - S.length) == S)
theorem ends_end (x y : Str) : Txt.endswith x y = endL (TL.tl y) (TL.tl x) := by
  unfold Txt.endswith endL
  simp only [Nat.zero_add, PySem.StrLaws.subAt_eq]
  have ex := TL.len_tl x
  have ey := TL.len_tl y
  rw [ex, ey]
  show (decide ((TL.tl y).length ≤ (TL.tl x).length) && (((TL.tl x).drop ((TL.tl x).length - (TL.tl y).length)).take (TL.tl y).length == TL.tl y)) = _
  by_cases h : (TL.tl y).length ≤ (TL.tl x).length
  · rw [List.take_of_length_le (by rw [List.length_drop]; omega)]
  · rw [decide_eq_false h]; rfl
def sp_plain_number : DSp := fun us M Q => ∃ (x : Str), us = [.d (.str x)] ∧ M = [] ∧ x.length ≤ sizeLine ∧ Q (.d (.int (pnumL (TL.tl x)))) []
theorem fig_in (c : Nat) : decide (c ∈ (Str.ofString "0123456789").cps.toList) = decide (48 ≤ c ∧ c ≤ 57) := by
  have hl : (Str.ofString "0123456789").cps.toList = [48, 49, 50, 51, 52, 53, 54, 55, 56, 57] := by decide +kernel
  rw [hl, Bool.eq_iff_iff, decide_eq_true_iff, decide_eq_true_iff]
  simp only [List.mem_cons, List.not_mem_nil, or_false]
  omega
theorem str48 (x : Str) : x = Str.ofString "0" ↔ TL.tl x = [48] := by
  constructor
  · rintro rfl; decide +kernel
  · intro h; exact (mk_eq h).trans (mk_eq (by decide +kernel)).symm
theorem pre48 (x : Str) : Txt.startswith x (Str.ofString "0") = decide ((TL.tl x).head? = some 48) := by
  rw [starts_pre, show TL.tl (Str.ofString "0") = [48] by decide +kernel]
  cases TL.tl x with
  | nil => rfl
  | cons c cs =>
    show (([c] : List Nat) == [48]) = decide (some c = some 48)
    rw [Bool.eq_iff_iff, beq_iff_eq, decide_eq_true_iff (p := some c = some 48)]
    simp
theorem mk_tl (x : Str) : mk (TL.tl x) = x := (mk_eq rfl).symm
theorem dg_num {w : Int} (h : 0 ≤ w) : dg w = TL.numL w.toNat := by
  have e := TL.tl_num w.toNat
  rw [Int.toNat_of_nonneg h] at e
  exact e
theorem numL_head {n : Nat} (h : TL.numL n ≠ [48]) : (TL.numL n).head? ≠ some 48 := by
  induction n using Nat.strongRecOn with
  | _ n ih =>
    by_cases h10 : n < 10
    · rw [TL.numL_lt h10] at h ⊢
      intro e
      apply h
      have := Option.some.inj e
      rw [this]
    · rw [TL.numL_step (by omega)]
      have h2 : (TL.numL (n / 10) ++ [48 + n % 10]).head? = (TL.numL (n / 10)).head? := by
        cases e : TL.numL (n / 10) with
        | nil => exact absurd e (TL.numL_ne _)
        | cons c r => rfl
      rw [h2]
      refine ih (n / 10) (by omega) fun e => ?_
      have hv := TL.numL_val (n / 10)
      rw [e] at hv
      have : n / 10 = 0 := by rw [← hv]; rfl
      omega
theorem pnum_dg {w : Int} (h0 : 0 ≤ w) (h1 : w < 100000) : pnumL (dg w) = w := by
  rw [dg_num h0]
  have hl := TL.numL_len (n := w.toNat) (k := 5) (by decide) (by omega)
  have hp : 1 ≤ (TL.numL w.toNat).length := List.length_pos_iff.mpr (TL.numL_ne _)
  have hf : figsL (TL.numL w.toNat) = true := List.all_eq_true.mpr fun c hc => decide_eq_true (TL.numL_digits _ c hc)
  rw [pnumL, if_pos ⟨hp, hl, hf, fun q => numL_head q.1 q.2⟩, TL.numL_val]
  omega

def markT : PyData → List (List Nat)
  | .int w => [dg w]
  | .str s => [TL.tl s]
  | _ => []
/-- a node's text -/
def ndx (n : Nd) : List Nat := TL.joinL [32] ((TL.tl n.op :: markT n.mark) ++ n.kids.map fun (k : Nat) => dg (k : Int))
def webx (ns : List Nd) : List Nat := TL.joinL [59, 32] (ns.map ndx)
def progx (ws : List (List Nd)) : List Nat := TL.joinL [10] (ws.map webx)
/-- what may be written -/
structure TxNd (n : Nd) : Prop where
  op : n.op ∈ opNames
  mark : (n.op = "num" ∧ ∃ w : Int, n.mark = .int w ∧ 0 ≤ w ∧ w < 65536) ∨ ((n.op = "var" ∨ n.op = "set") ∧ ∃ s, n.mark = .str s ∧ nameOk s) ∨ ((n.op ≠ "num" ∧ n.op ≠ "var" ∧ n.op ≠ "set") ∧ n.mark = .none)
  kids : n.kids.length ≤ 2
  lt : ∀ k ∈ n.kids, k < 65536
theorem tx_good {l : Nat} {n : Nd} (hl : l ≤ 1000) (h : GoodNd l n) : TxNd n := by
  have o1 : ∀ o ∈ ops1, o ∈ opNames ∧ o ≠ "num" ∧ o ≠ "var" ∧ o ≠ "set" := by decide
  have o2 : ∀ o ∈ ops2, o ∈ opNames ∧ o ≠ "num" ∧ o ≠ "var" ∧ o ≠ "set" := by decide
  rcases h with ⟨h1, h2, h3⟩ | ⟨h1, h2, h3⟩ | ⟨h1, h2, a, h3, h4⟩ | ⟨h1, h2, a, b, h3, h4, h5⟩
  · exact ⟨by rw [h1]; decide, .inl ⟨h1, h2⟩, by rw [h3]; simp, by rw [h3]; simp⟩
  · exact ⟨by rw [h1]; decide, .inr (.inl ⟨.inl h1, h2⟩), by rw [h3]; simp, by rw [h3]; simp⟩
  · exact ⟨(o1 _ h1).1, .inr (.inr ⟨(o1 _ h1).2, h2⟩), by rw [h3]; simp, by rw [h3]; simp; omega⟩
  · exact ⟨(o2 _ h1).1, .inr (.inr ⟨(o2 _ h1).2, h2⟩), by rw [h3]; simp, by rw [h3]; simp; omega⟩
theorem tx_deed {l : Nat} {n : Nd} (hl : l ≤ 1000) (h : DeedOk l n) : TxNd n := by
  rcases h with ⟨h1, h2, a, b, h3, h4, h5⟩ | ⟨h1, h2, a, h3, h4⟩
  · exact ⟨by rw [h1]; decide, .inr (.inr ⟨by rw [h1]; decide, h2⟩), by rw [h3]; simp, by rw [h3]; simp; omega⟩
  · exact ⟨by rw [h1]; decide, .inr (.inl ⟨.inr h1, h2⟩), by rw [h3]; simp, by rw [h3]; simp; omega⟩
theorem tx_web {parts : List Nd} {deed : Nd} (h : PartOk parts) (hd : DeedOk parts.length deed) (hl : parts.length ≤ 1000) : ∀ n ∈ parts ++ [deed], TxNd n := fun n hn => by
  rcases List.mem_append.mp hn with hn | hn
  · obtain ⟨i, hi, e⟩ := List.getElem_of_mem hn
    exact tx_good (l := i) (by omega) (h i n (by rw [List.getElem?_eq_getElem hi, e]))
  · rw [List.mem_singleton.mp hn]
    exact tx_deed hl hd
theorem ndx_sum {n : Nd} (h : TxNd n) : (((TL.tl n.op :: markT n.mark) ++ n.kids.map fun (k : Nat) => dg (k : Int)).map fun l => l.length + 1).sum ≤ 60 := by
  have ho : ∀ o ∈ opNames, (TL.tl o).length ≤ 4 := by decide +kernel
  have h1 := ho _ h.op
  have hm : ((markT n.mark).map fun l => l.length + 1).sum ≤ 9 := by
    rcases h.mark with ⟨_, w, e, w0, w1⟩ | ⟨_, s, e, hs⟩ | ⟨_, e⟩
    · rw [e]
      have := dg_len w0 (by omega : w < 1000000)
      simp [markT]; omega
    · rw [e]
      have := hs.2.1
      have e2 : (TL.tl s).length = s.cps.toList.length := rfl
      simp [markT]; omega
    · rw [e]; simp [markT]
  have hk : ∀ ks : List Nat, (∀ k ∈ ks, k < 65536) → ((ks.map fun (k : Nat) => dg (k : Int)).map fun l => l.length + 1).sum ≤ 8 * ks.length := by
    intro ks hks
    induction ks with
    | nil => simp
    | cons k ks ih =>
      have a := dg_len (i := (k : Int)) (by omega) (by have := hks k List.mem_cons_self; omega)
      have b := ih fun x hx => hks x (List.mem_cons_of_mem _ hx)
      simp only [List.map_cons, List.sum_cons, List.length_cons] at b ⊢
      omega
  have h2 := hk n.kids h.lt
  have h3 := h.kids
  simp only [List.map_append, List.sum_append, List.map_cons, List.sum_cons, List.length_cons, List.length_nil, Nat.zero_add, List.cons_append]
  omega
theorem ndx_len {n : Nd} (h : TxNd n) : (ndx n).length ≤ 60 := Nat.le_trans (joinL_le [32] _) (ndx_sum h)
def strK : PyData → PyData
  | .int i => .str (itx i)
  | _ => .none
theorem strK_map (kids : List Nat) : (encKids kids).map strK = ((kids.map fun (k : Nat) => dg (k : Int)).map mk).map PyData.str := by
  unfold encKids
  rw [List.map_map, List.map_map, List.map_map]
  exact List.map_congr_left fun k _ => congrArg PyData.str (mk_eq rfl)
theorem node_sum {ls : List (List Nat)} (h : (ls.map fun l => l.length + 1).sum ≤ 60) : ((ls.map mk).map (·.length)).sum + (ls.map mk).length * (Str.ofString " ").length ≤ 16777216 := by
  have e2 : (Str.ofString " ").length = 1 := by decide
  have e : ∀ ls : List (List Nat), ((ls.map mk).map (·.length)).sum + (ls.map mk).length * 1 = (ls.map fun l => l.length + 1).sum := fun ls => by
    induction ls with
    | nil => rfl
    | cons l ls ih => simp only [List.map_cons, List.sum_cons, List.length_cons, mk_len] at ih ⊢; omega
  rw [e2, e]
  omega
def sp_show_node : DSp := fun us M Q => ∃ n : Nd, us = [.d n.enc] ∧ M = [] ∧ TxNd n ∧ Q (.d (.str (mk (ndx n)))) []
theorem web_sum {ns : List Nd} (h : ∀ n ∈ ns, TxNd n) (hl : ns.length ≤ 100) : (((ns.map ndx).map mk).map (·.length)).sum + ((ns.map ndx).map mk).length * (Str.ofString "; ").length ≤ 16777216 ∧ (webx ns).length ≤ 62 * ns.length := by
  have e2 : (Str.ofString "; ").length = 2 := by decide
  have e : ∀ ns : List Nd, (∀ n ∈ ns, TxNd n) → ((ns.map ndx).map fun l => l.length + 2).sum ≤ 62 * ns.length ∧ (((ns.map ndx).map mk).map (·.length)).sum + ((ns.map ndx).map mk).length * 2 = ((ns.map ndx).map fun l => l.length + 2).sum := fun ns h => by
    induction ns with
    | nil => simp
    | cons n ns ih =>
      have a := ndx_len (h n List.mem_cons_self)
      obtain ⟨b, c⟩ := ih fun x hx => h x (List.mem_cons_of_mem _ hx)
      simp only [List.map_cons, List.sum_cons, List.length_cons, mk_len] at b c ⊢
      omega
  obtain ⟨a, b⟩ := e ns h
  rw [e2, b]
  exact ⟨by omega, Nat.le_trans (joinL_le [59, 32] _) a⟩
def sp_show_web : DSp := fun us M Q => ∃ ns : List Nd, us = [.d (encWeb ns)] ∧ M = [] ∧ (∀ n ∈ ns, TxNd n) ∧ ns.length ≤ 100 ∧ Q (.d (.str (mk (webx ns)))) []
def sp_lnode : DSp := fun us M Q => ∃ n : Nd, us = [.d n.enc] ∧ M = [] ∧ TxNd n ∧ Q (.d (.str (mk (ndx n)))) []
def sp_ltext : DSp := fun us M Q => ∃ ns : List Nd, us = [.d (encWeb ns)] ∧ M = [] ∧ (∀ n ∈ ns, TxNd n) ∧ ns.length ≤ 100 ∧ Q (.d (.str (mk (webx ns)))) []
theorem prog_sum {ws : List (List Nd)} (h : ∀ ns ∈ ws, (∀ n ∈ ns, TxNd n) ∧ ns.length ≤ 100) (hl : ws.length ≤ 20) : (((ws.map webx).map mk).map (·.length)).sum + ((ws.map webx).map mk).length * (Str.ofString "\n").length ≤ 16777216 ∧ (progx ws).length ≤ 6201 * ws.length := by
  have e2 : (Str.ofString "\n").length = 1 := by decide
  have e : ∀ ws : List (List Nd), (∀ ns ∈ ws, (∀ n ∈ ns, TxNd n) ∧ ns.length ≤ 100) → ((ws.map webx).map fun l => l.length + 1).sum ≤ 6201 * ws.length ∧ (((ws.map webx).map mk).map (·.length)).sum + ((ws.map webx).map mk).length * 1 = ((ws.map webx).map fun l => l.length + 1).sum := fun ws h => by
    induction ws with
    | nil => simp
    | cons n ns ih =>
      obtain ⟨h1, h2⟩ := h n List.mem_cons_self
      have a := (web_sum h1 h2).2
      obtain ⟨b, c⟩ := ih fun x hx => h x (List.mem_cons_of_mem _ hx)
      simp only [List.map_cons, List.sum_cons, List.length_cons, mk_len] at b c ⊢
      omega
  obtain ⟨a, b⟩ := e ws h
  rw [e2, b]
  exact ⟨by omega, Nat.le_trans (joinL_le [10] _) a⟩
def sp_show_program : DSp := fun us M Q => ∃ ws : List (List Nd), us = [.d (.list (ws.map encWeb))] ∧ M = [] ∧ (∀ ns ∈ ws, (∀ n ∈ ns, TxNd n) ∧ ns.length ≤ 100) ∧ ws.length ≤ 20 ∧ Q (.d (.str (mk (progx ws)))) []
def sp_read_mark : DSp := fun us M Q => ∃ (op w : Str), us = [.d (.str op), .d (.str w)] ∧ M = [] ∧ w.length ≤ 10000 ∧ ((op = "num" ∧ Q (.d (.int (pnumL (TL.tl w)))) []) ∨ ((op = "var" ∨ op = "set") ∧ Q (.d (.str w)) []))
structure TxAr (n : Nd) : Prop where
  tx : TxNd n
  ar : wr_KIDS.lookup n.op = some (n.kids.length : Int)
theorem ndx_parts {n : Nd} (h : TxNd n) : ∀ p ∈ (TL.tl n.op :: markT n.mark) ++ n.kids.map (fun (k : Nat) => dg (k : Int)), 32 ∉ p := fun p hp hm => by
  have ho : ∀ o ∈ opNames, ((TL.tl o).all fun c => decide (c ≠ 32)) = true := by decide +kernel
  have hdg : ∀ w : Int, 0 ≤ w → 32 ∉ dg w := fun w hw hc => by
    rw [dg_num hw] at hc
    have := TL.numL_digits w.toNat _ hc
    omega
  rcases List.mem_append.mp hp with hp | hp
  · rcases List.mem_cons.mp hp with rfl | hp
    · have := of_decide_eq_true (List.all_eq_true.mp (ho _ h.op) _ hm)
      exact this rfl
    · rcases h.mark with ⟨_, w, e, w0, w1⟩ | ⟨_, s, e, hs⟩ | ⟨_, e⟩
      · rw [e] at hp
        rw [List.mem_singleton.mp hp] at hm
        exact hdg w w0 hm
      · rw [e] at hp
        rw [List.mem_singleton.mp hp] at hm
        have := hs.2.2 _ hm
        omega
      · rw [e] at hp; cases hp
  · obtain ⟨k, _, rfl⟩ := List.mem_map.mp hp
    exact hdg _ (by omega) hm
theorem ndx_split {n : Nd} (h : TxNd n) : Txt.split (mk (ndx n)) (Str.ofString " ") = ((TL.tl n.op :: markT n.mark) ++ n.kids.map (fun (k : Nat) => dg (k : Int))).map mk := by
  have e := SX.split_S (a := ndx n) (b := [32]) (List.cons_ne_nil _ _) (by decide)
  rw [show SX.S [32] = Str.ofString " " from (mk_eq (by decide +kernel)).symm] at e
  refine e.trans ?_
  unfold ndx
  rw [SX.spl_join (c := 32) (sep := []) (by simp) (ndx_parts h)]
  rfl
def numK : PyData → PyData
  | .str s => .int (pnumL (TL.tl s))
  | _ => .none
theorem numK_at {k : Nat} (h : k < 65536) : numK (.str (mk (dg (k : Int)))) = .int (k : Int) := by
  show PyData.int (pnumL (TL.tl (mk (dg (k : Int))))) = _
  rw [tl_mk, pnum_dg (by omega) (by omega)]
theorem numK_map {kids : List Nat} (h : ∀ k ∈ kids, k < 65536) : ((kids.map fun (k : Nat) => mk (dg (k : Int))).map PyData.str).map numK = encKids kids := by
  unfold encKids
  rw [List.map_map, List.map_map]
  exact List.map_congr_left fun k hk => numK_at (h k hk)
def sp_read_node : DSp := fun us M Q => ∃ n : Nd, us = [.d (.str (mk (ndx n)))] ∧ M = [] ∧ TxAr n ∧ Q (.d n.enc) []
structure WebR (ns : List Nd) : Prop where
  nd : ∀ n ∈ ns, TxAr n
  l1 : 1 ≤ ns.length
  l2 : ns.length ≤ 40
  ok : webB (encWeb ns) = true
  tm : tame (encWeb ns) = true
  dp : (encWeb ns).depth ≤ 3
theorem WebR.tx {ns : List Nd} (h : WebR ns) : ∀ n ∈ ns, TxNd n := fun n hn => (h.nd n hn).tx
theorem joinLm {S : List Nat} {c : Nat} : ∀ {ls : List (List Nat)}, c ∈ TL.joinL S ls → c ∈ S ∨ ∃ l ∈ ls, c ∈ l
  | [], h => by cases h
  | [a], h => .inr ⟨a, by simp, by simpa [TL.joinL] using h⟩
  | a :: b :: r, h => by
    rw [TL.joinL] at h
    rcases List.mem_append.mp h with h | h
    · exact .inr ⟨a, by simp, h⟩
    · rcases List.mem_append.mp h with h | h
      · exact .inl h
      · rcases joinLm h with h | ⟨l, hl, h⟩
        · exact .inl h
        · exact .inr ⟨l, List.mem_cons_of_mem _ hl, h⟩
theorem ndx_sign {n : Nd} (h : TxNd n) : ∀ c ∈ ndx n, c ≠ 59 ∧ c ≠ 10 := fun c hc => by
  have ho : ∀ o ∈ opNames, ((TL.tl o).all fun c => decide (c ≠ 59 ∧ c ≠ 10)) = true := by decide +kernel
  have hdg : ∀ w : Int, 0 ≤ w → c ∈ dg w → c ≠ 59 ∧ c ≠ 10 := fun w hw hc => by
    rw [dg_num hw] at hc
    have := TL.numL_digits w.toNat _ hc
    omega
  rcases joinLm hc with hc | ⟨p, hp, hc⟩
  · have := List.mem_singleton.mp hc
    omega
  rcases List.mem_append.mp hp with hp | hp
  · rcases List.mem_cons.mp hp with rfl | hp
    · exact of_decide_eq_true (List.all_eq_true.mp (ho _ h.op) _ hc)
    · rcases h.mark with ⟨_, w, e, w0, w1⟩ | ⟨_, s, e, hs⟩ | ⟨_, e⟩
      · rw [e] at hp
        rw [List.mem_singleton.mp hp] at hc
        exact hdg w w0 hc
      · rw [e] at hp
        rw [List.mem_singleton.mp hp] at hc
        have := hs.2.2 _ hc
        omega
      · rw [e] at hp; cases hp
  · obtain ⟨k, _, rfl⟩ := List.mem_map.mp hp
    exact hdg _ (by omega) hc
theorem webx_split {ns : List Nd} (h : ∀ n ∈ ns, TxNd n) (hl : 1 ≤ ns.length) : Txt.split (mk (webx ns)) (Str.ofString "; ") = (ns.map ndx).map mk := by
  have e := SX.split_S (a := webx ns) (b := [59, 32]) (List.cons_ne_nil _ _) (by decide)
  rw [show SX.S [59, 32] = Str.ofString "; " from (mk_eq (by decide +kernel)).symm] at e
  refine e.trans ?_
  unfold webx
  rw [SX.spl_join (c := 59) (sep := [32]) (fun e => by cases ns with | nil => cases hl | cons a b => cases e) (fun p hp hm => by
    obtain ⟨n, hn, rfl⟩ := List.mem_map.mp hp
    exact (ndx_sign (h n hn) _ hm).1 rfl)]
  rfl
theorem webx_len {ns : List Nd} (h : ∀ n ∈ ns, TxNd n) (hl : ns.length ≤ 100) : (webx ns).length ≤ 62 * ns.length := (web_sum h hl).2
def sp_web_in : DSp := fun us M Q => ∃ ns : List Nd, us = [.d (.str (mk (webx ns)))] ∧ M = [] ∧ WebR ns ∧ Q (.p 0) [webO ns]
def sp_read_web : DSp := fun us M Q => ∃ ns : List Nd, us = [.d (.str (mk (webx ns)))] ∧ M = [] ∧ WebR ns ∧ Q (.p 0) [webO ns]
def progM (ws : List (List Nd)) : List Ob := ws.map webO ++ [.lsp ((List.range' 0 ws.length).map U.p)]
theorem ndx_pos {n : Nd} (h : TxNd n) : ndx n ≠ [] := fun e => by
  have ho : ∀ o ∈ opNames, 1 ≤ (TL.tl o).length := by decide +kernel
  have h1 := ho _ h.op
  have : ∀ (a : List Nat) (b : List (List Nat)), 1 ≤ a.length → 1 ≤ (TL.joinL [32] (a :: b)).length := fun a b h => by
    cases b with
    | nil => exact h
    | cons c d => rw [TL.joinL, List.length_append]; omega
  have h2 := this _ (markT n.mark ++ n.kids.map fun (k : Nat) => dg (k : Int)) h1
  have e' : TL.joinL [32] (TL.tl n.op :: (markT n.mark ++ n.kids.map fun (k : Nat) => dg (k : Int))) = [] := e
  rw [e'] at h2
  cases h2
theorem joinL_pos {S : List Nat} {a : List Nat} {b : List (List Nat)} (h : a ≠ []) : TL.joinL S (a :: b) ≠ [] := by
  cases b with
  | nil => exact h
  | cons c d =>
    rw [TL.joinL]
    intro e
    exact h (List.append_eq_nil_iff.mp e).1
theorem webx_pos {ns : List Nd} (h : ∀ n ∈ ns, TxNd n) (hl : 1 ≤ ns.length) : webx ns ≠ [] := by
  cases ns with
  | nil => cases hl
  | cons n ns => exact joinL_pos (ndx_pos (h n List.mem_cons_self))
theorem progx_ne {w0 : List Nd} {ws0 : List (List Nd)} (h : ∀ ns ∈ w0 :: ws0, WebR ns) : ¬ mk (progx (w0 :: ws0)) = Str.ofString "" := fun e => by
  have hw := h w0 List.mem_cons_self
  have := congrArg TL.tl e
  rw [tl_mk, show TL.tl (Str.ofString "") = [] by decide +kernel] at this
  exact joinL_pos (webx_pos hw.tx hw.l1) this
theorem progx_len {ws : List (List Nd)} (h : ∀ ns ∈ ws, WebR ns) (hl : ws.length ≤ 20) : (progx ws).length ≤ 6201 * ws.length := (prog_sum (fun ns hn => ⟨(h ns hn).tx, by have := (h ns hn).l2; omega⟩) hl).2
theorem progx_split {ws : List (List Nd)} (h : ∀ ns ∈ ws, WebR ns) (hl : 1 ≤ ws.length) : Txt.split (mk (progx ws)) (Str.ofString "\n") = (ws.map webx).map mk := by
  have e := SX.split_S (a := progx ws) (b := [10]) (List.cons_ne_nil _ _) (by decide)
  rw [show SX.S [10] = Str.ofString "\n" from (mk_eq (by decide +kernel)).symm] at e
  refine e.trans ?_
  unfold progx
  rw [SX.spl_join (c := 10) (sep := []) (fun e => by cases ws with | nil => cases hl | cons a b => cases e) (fun p hp hm => by
    obtain ⟨ns, hn, rfl⟩ := List.mem_map.mp hp
    rcases joinLm hm with hm | ⟨l, hl, hm⟩
    · simp at hm
    · obtain ⟨n, hn2, rfl⟩ := List.mem_map.mp hl
      exact (ndx_sign ((h ns hn).tx n hn2) _ hm).2 rfl)]
  rfl
theorem vd_webs {M : List Ob} {n : Nat} : ∀ (ws : List (List Nd)) (k : Nat), (∀ i w, ws[i]? = some w → M[k + i]? = some (webO w)) → allO (vd M (n + 1)) ((List.range' k ws.length).map U.p) = some (ws.map encWeb)
  | [], _, _ => rfl
  | w :: ws, k, h => by
    rw [List.length_cons, List.range'_succ, List.map_cons, List.map_cons]
    have h0 := h 0 w rfl
    have e1 : vd M (n + 1) (.p k) = some (encWeb w) := by
      unfold vd
      dsimp only
      rw [show M[k]? = some (webO w) from h0]; rfl
    have e2 := vd_webs (M := M) (n := n) ws (k + 1) fun i x hx => by
      have := h (i + 1) x (by simpa using hx)
      rw [show k + (i + 1) = k + 1 + i by omega] at this
      exact this
    unfold allO
    rw [e1, e2]
theorem prog_shaped {ws : List (List Nd)} (h : ∀ ns ∈ ws, tame (encWeb ns) = true ∧ (encWeb ns).depth ≤ 3) (hl : ws.length ≤ 1000) : SeqAt.shaped (.list (ws.map encWeb)) = true := by
  have t : tame (.list (ws.map encWeb)) = true := by
    show (decide ((ws.map encWeb).length ≤ 10000) && tames (ws.map encWeb)) = true
    rw [tames_all _ fun x hx => by obtain ⟨n, hn, rfl⟩ := List.mem_map.mp hx; exact (h n hn).1, decide_eq_true (by rw [List.length_map]; omega)]; rfl
  refine tam_shaped (tam_tame _ t) ?_
  have e : (PyData.list (ws.map encWeb)).depth = PyData.depthAll (ws.map encWeb) + 1 := rfl
  have := depths_le (b := 3) (ws.map encWeb) fun x hx => by obtain ⟨n, hn, rfl⟩ := List.mem_map.mp hx; exact (h n hn).2
  omega
theorem none_in (ws : List (List Nd)) : (ws.map encWeb).any (fun z => PyData.eqv z .none) = false := by
  rw [List.any_eq_false]
  intro x hx
  obtain ⟨n, _, rfl⟩ := List.mem_map.mp hx
  simp [encWeb, PyData.eqv]
def sp_read_program : DSp := fun us M Q => ∃ ws : List (List Nd), us = [.d (.str (mk (progx ws)))] ∧ M = [] ∧ (∀ ns ∈ ws, WebR ns) ∧ ws.length ≤ 20 ∧ Q (.p ws.length) (progM ws)
def sumTo (f : Nat → Nat) : Nat → Nat
  | 0 => 0
  | n + 1 => sumTo f n + f n
theorem sumTo_add (f g : Nat → Nat) : ∀ n, sumTo (fun i => f i + g i) n = sumTo f n + sumTo g n
  | 0 => rfl
  | n + 1 => by simp only [sumTo, sumTo_add f g n]; omega
theorem sumTo_one (x : Nat) : ∀ n, sumTo (fun i => if x == i then 1 else 0) n = if x < n then 1 else 0
  | 0 => by simp [sumTo]
  | n + 1 => by
    simp only [sumTo, sumTo_one x n]
    by_cases h : x = n
    · subst h; simp
    · have e : (x == n) = false := by simpa using h
      rw [e]
      by_cases h2 : x < n
      · have h3 : x < n + 1 := by omega
        simp [h2, h3]
      · have h3 : ¬ x < n + 1 := by omega
        simp [h2, h3]
theorem len_sum (n : Nat) : ∀ ls : List Nat, (∀ x ∈ ls, x < n) → ls.length = sumTo (fun i => ls.count i) n
  | [], _ => by
    have e : ∀ m, sumTo (fun i => ([] : List Nat).count i) m = 0 := fun m => by
      induction m with
      | zero => rfl
      | succ m ih => simp only [sumTo, ih]; rfl
    rw [e]; rfl
  | x :: xs, h => by
    have h1 := len_sum n xs fun y hy => h y (List.mem_cons_of_mem _ hy)
    have e : (fun i => (x :: xs).count i) = fun i => xs.count i + (if x == i then 1 else 0) := funext fun i => List.count_cons
    rw [e, sumTo_add, ← h1, sumTo_one, if_pos (h x List.mem_cons_self)]; rfl
theorem sum_ones (f : Nat → Nat) : ∀ n, (∀ i, i < n → 1 ≤ f i) → n ≤ sumTo f n ∧ (sumTo f n = n ↔ ∀ i, i < n → f i = 1)
  | 0, _ => ⟨Nat.le_refl _, ⟨fun _ i hi => absurd hi (Nat.not_lt_zero _), fun _ => rfl⟩⟩
  | n + 1, h => by
    obtain ⟨a, b⟩ := sum_ones f n fun i hi => h i (Nat.lt_succ_of_lt hi)
    have hn := h n (Nat.lt_succ_self n)
    simp only [sumTo]
    refine ⟨by omega, ⟨fun e i hi => ?_, fun e => ?_⟩⟩
    · by_cases hin : i = n
      · subst hin; omega
      · exact b.mp (by omega) i (by omega)
    · rw [b.mpr fun i hi => e i (by omega), e n (by omega)]
/-- every part is a kid: as many kids as parts just where each is one once -/
theorem once_iff {ls : List Nat} {n : Nat} (h1 : ∀ i, i < n → i ∈ ls) (h2 : ∀ i ∈ ls, i < n) : ls.length = n ↔ ∀ j, j < n → ls.count j = 1 := by
  rw [len_sum n ls h2]
  exact (sum_ones _ n fun i hi => List.count_pos_iff.mpr (h1 i hi)).2
theorem nodup_len {ls : List Nat} {n : Nat} (nd : ls.Nodup) (h1 : ∀ i, i < n → i ∈ ls) (h2 : ∀ i ∈ ls, i < n) : ls.length = n := (once_iff h1 h2).mpr fun j hj => by
  have a := List.nodup_iff_count.mp nd j
  have b := List.count_pos_iff.mpr (h1 j hj)
  omega

theorem len_le_of {ls : List Nat} {n : Nat} (nd : ls.Nodup) (h : ∀ i ∈ ls, i < n) : ls.length ≤ n := by
  rw [len_sum n ls h]
  have e : ∀ m, sumTo (fun i => ls.count i) m ≤ m := fun m => by
    induction m with
    | zero => exact Nat.le_refl _
    | succ m ih =>
      have := List.nodup_iff_count.mp nd m
      show sumTo _ m + ls.count m ≤ m + 1
      omega
  exact e n
theorem full_iff {ls : List Int} {n : Nat} (nd : ls.Nodup) (h : ∀ x ∈ ls, 0 ≤ x ∧ x ≤ (n : Int) - 1) : ls.length = n ↔ ∀ i : Nat, i < n → (i : Int) ∈ ls := by
  have inj : (ls.map Int.toNat).Nodup := by
    refine List.pairwise_map.mpr (List.Pairwise.imp_of_mem (fun {a b} ha hb ne e => ne ?_) nd)
    have := h a ha
    have := h b hb
    omega
  have lt : ∀ i ∈ ls.map Int.toNat, i < n := fun i hi => by
    obtain ⟨x, hx, rfl⟩ := List.mem_map.mp hi
    have := h x hx
    omega
  have mem : ∀ i : Nat, i ∈ ls.map Int.toNat ↔ (i : Int) ∈ ls := fun i => by
    constructor
    · intro hi
      obtain ⟨x, hx, e⟩ := List.mem_map.mp hi
      have := h x hx
      rw [show (i : Int) = x by omega]; exact hx
    · intro hi
      exact List.mem_map.mpr ⟨_, hi, Int.toNat_natCast i⟩
  constructor
  · intro e i hi
    apply Classical.byContradiction
    intro no
    have h1 : i ∉ ls.map Int.toNat := fun q => no ((mem i).mp q)
    have := len_le_of (ls := i :: ls.map Int.toNat) (n := n) (List.nodup_cons.mpr ⟨h1, inj⟩) (fun j hj => (List.mem_cons.mp hj).elim (fun e => e ▸ hi) (lt j))
    rw [List.length_cons, List.length_map] at this
    omega
  · intro hall
    have := nodup_len inj (fun i hi => (mem i).mpr (hall i hi)) lt
    rwa [List.length_map] at this
theorem deed_enc (n : Nx) : deedD n.enc = decide (n.op ∈ wr_DEEDS) := rfl
theorem getL {α : Type} {pre : List α} {z : α} {i : Nat} {x : α} (h : (pre ++ [z])[i]? = some x) : (i < pre.length ∧ pre[i]? = some x) ∨ (i = pre.length ∧ x = z) := by
  by_cases hi : i < pre.length
  · rw [List.getElem?_append_left hi] at h; exact .inl ⟨hi, h⟩
  · rw [List.getElem?_append_right (by omega)] at h
    have h0 : i - pre.length = 0 := by
      have := (List.getElem?_eq_some_iff.mp h).1
      simp at this; omega
    rw [h0] at h
    exact .inr ⟨by omega, by simpa using h.symm⟩
def toNx (n : Nd) : Nx := ⟨n.op, n.mark, n.kids.map fun (k : Nat) => (k : Int)⟩
theorem enc_toNx (n : Nd) : (toNx n).enc = n.enc := by
  show PyData.tuple [.str n.op, n.mark, .tuple ((n.kids.map fun (k : Nat) => (k : Int)).map PyData.int)] = _
  rw [List.map_map]; rfl
theorem toNx_ok {l : Nat} {n : Nd} (hk : wr_KIDS.lookup n.op = some (n.kids.length : Int)) (hm : markB n.op n.mark = true) (h : ∀ k ∈ n.kids, k < l) : (toNx n).ok (l : Int) :=
  ⟨_, hk, hm, by show ((n.kids.map _).length : Int) = _; rw [List.length_map], fun k hk => by
    obtain ⟨x, hx, rfl⟩ := List.mem_map.mp (show k ∈ n.kids.map fun (k : Nat) => (k : Int) from hk)
    have := h x hx
    omega⟩
theorem k_ops1 : ∀ o ∈ ops1, wr_KIDS.lookup o = some 1 ∧ wr_MARKS.lookup o = none ∧ o ∉ wr_DEEDS := by decide
theorem k_ops2 : ∀ o ∈ ops2, wr_KIDS.lookup o = some 2 ∧ wr_MARKS.lookup o = none ∧ o ∉ wr_DEEDS := by decide
theorem mark_name {s : Str} (h : nameOk s) : nmB (.str s) = true := decide_eq_true h
theorem good_nx {l : Nat} {n : Nd} (h : GoodNd l n) : (toNx n).ok (l : Int) ∧ n.op ∉ wr_DEEDS := by
  rcases h with ⟨a, ⟨w, b, w0, w1⟩, c⟩ | ⟨a, ⟨s, b, hs⟩, c⟩ | ⟨a, b, x, c, hx⟩ | ⟨a, b, x, y, c, hx, hy⟩
  · refine ⟨toNx_ok (by rw [a, c]; rfl) ?_ (by rw [c]; simp), by rw [a]; decide⟩
    rw [a, b]
    show (decide (0 ≤ w) && decide (w ≤ 65535)) = true
    rw [decide_eq_true w0, decide_eq_true (by omega)]; rfl
  · exact ⟨toNx_ok (by rw [a, c]; rfl) (by rw [a, b]; exact mark_name hs) (by rw [c]; simp), by rw [a]; decide⟩
  · obtain ⟨e1, e2, e3⟩ := k_ops1 _ a
    exact ⟨toNx_ok (by rw [e1, c]; rfl) (by rw [b]; unfold markB; rw [e2]; rfl) (by rw [c]; simp; omega), e3⟩
  · obtain ⟨e1, e2, e3⟩ := k_ops2 _ a
    exact ⟨toNx_ok (by rw [e1, c]; rfl) (by rw [b]; unfold markB; rw [e2]; rfl) (by rw [c]; simp; omega), e3⟩
theorem deed_nx {l : Nat} {n : Nd} (h : DeedOk l n) : (toNx n).ok (l : Int) ∧ n.op ∈ wr_DEEDS := by
  rcases h with ⟨a, b, x, y, c, hx, hy⟩ | ⟨a, ⟨s, b, hs⟩, x, c, hx⟩
  · exact ⟨toNx_ok (by rw [a, c]; rfl) (by rw [a, b]; rfl) (by rw [c]; simp; omega), by rw [a]; decide⟩
  · exact ⟨toNx_ok (by rw [a, c]; rfl) (by rw [a, b]; exact mark_name hs) (by rw [c]; simp; omega), by rw [a]; decide⟩
theorem web_true {once : Bool} {parts : List Nd} {deed : Nd} (h : WebG once parts deed) (h1 : 1 ≤ parts.length) (h2 : parts.length + 1 ≤ 40) : webB (encWeb (parts ++ [deed])) = true := by
  have hok : NxOk ((parts ++ [deed]).map toNx) := fun i n hn => by
    rw [List.map_append, List.map_cons, List.map_nil] at hn
    rcases getL hn with ⟨h3, h4⟩ | ⟨h3, rfl⟩
    · rw [List.getElem?_map] at h4
      cases e : parts[i]? with
      | none => rw [e] at h4; cases h4
      | some m => rw [e] at h4; cases h4; exact (good_nx (h.part i m e)).1
    · rw [List.length_map] at h3
      rw [h3]; exact (deed_nx h.dd).1
  have eW : encWeb (parts ++ [deed]) = .list (((parts ++ [deed]).map toNx).map Nx.enc) := by
    show PyData.list _ = _
    rw [List.map_map]
    congr 1
    exact List.map_congr_left fun n _ => (enc_toNx n).symm
  rw [eW]
  have hlen : (((parts ++ [deed]).map toNx).map Nx.enc).length = parts.length + 1 := by simp
  have eL : ((((parts ++ [deed]).map toNx).map Nx.enc).getLast?.map deedD).getD false = decide (deed.op ∈ wr_DEEDS) := by
    rw [List.map_append, List.map_append, List.map_cons, List.map_nil, List.map_cons, List.map_nil, List.getLast?_append]; rfl
  have eP : (((parts ++ [deed]).map toNx).map Nx.enc).dropLast.any deedD = false := by
    rw [List.map_append, List.map_append, List.map_cons, List.map_nil, List.map_cons, List.map_nil, List.dropLast_concat, List.any_eq_false]
    intro d hd
    obtain ⟨x, hx, rfl⟩ := List.mem_map.mp hd
    obtain ⟨n, hn, rfl⟩ := List.mem_map.mp hx
    obtain ⟨i, hi, e⟩ := List.getElem_of_mem hn
    have := (good_nx (h.part i n (by rw [List.getElem?_eq_getElem hi, e]))).2
    rw [deed_enc]
    exact fun q => this (of_decide_eq_true q)
  have hk : nxKids ((parts ++ [deed]).map toNx) = (kidsOf (parts ++ [deed])).map fun (k : Nat) => (k : Int) := by
    unfold nxKids kidsOf
    rw [List.map_map, List.map_flatten, List.map_map]; rfl
  have hfull : (firsts (nxKids ((parts ++ [deed]).map toNx))).length = parts.length := by
    refine (full_iff (firsts_nodup _) fun x hx => ?_).mpr fun i hi => ?_
    · rw [firsts_mem, hk] at hx
      obtain ⟨y, hy, rfl⟩ := List.mem_map.mp hx
      rw [kidsOf_snoc] at hy
      have hlt : y < parts.length := by
        rcases List.mem_append.mp hy with q | q
        · exact kids_lt h.part y q
        · rcases h.dd with ⟨_, _, x, z, e, h1, h2⟩ | ⟨_, _, x, e, h1⟩ <;> rw [e] at q <;> simp at q <;> omega
      omega
    · rw [firsts_mem, hk]
      exact List.mem_map.mpr ⟨i, h.used i hi, rfl⟩
  show (decide (2 ≤ (((parts ++ [deed]).map toNx).map Nx.enc).length) && (decide ((((parts ++ [deed]).map toNx).map Nx.enc).length ≤ 40) && (ndsB (((parts ++ [deed]).map toNx).map Nx.enc) && (((((parts ++ [deed]).map toNx).map Nx.enc).getLast?.map deedD).getD false && (!((((parts ++ [deed]).map toNx).map Nx.enc).dropLast.any deedD) && decide ((firsts ((((parts ++ [deed]).map toNx).map Nx.enc).map kidsD).flatten).length = (((parts ++ [deed]).map toNx).map Nx.enc).length - 1)))))) = true
  rw [hlen, nx_ndsB hok, eL, eP, kidsD_all, hfull, decide_eq_true (show 2 ≤ parts.length + 1 by omega), decide_eq_true h2, decide_eq_true (deed_nx h.dd).2]
  simp

theorem web_r {parts : List Nd} {deed : Nd} (h : WebG false parts deed) (h1 : 1 ≤ parts.length) (h2 : parts.length + 1 ≤ 32) : WebR (parts ++ [deed]) where
  nd := fun n hn => ⟨tx_web h.part h.dd (by omega) n hn, by
    rcases List.mem_append.mp hn with hn | hn
    · obtain ⟨i, hi, e⟩ := List.getElem_of_mem hn
      rcases h.part i n (by rw [List.getElem?_eq_getElem hi, e]) with ⟨h1, h2, h3⟩ | ⟨h1, h2, h3⟩ | ⟨h1, h2, a, h3, h4⟩ | ⟨h1, h2, a, b, h3, h4, h5⟩
      · rw [h1, h3]; decide +kernel
      · rw [h1, h3]; decide +kernel
      · rw [(k_ops1 _ h1).1, h3]; rfl
      · rw [(k_ops2 _ h1).1, h3]; rfl
    · rw [List.mem_singleton.mp hn]
      rcases h.dd with ⟨h1, h2, a, b, h3, h4, h5⟩ | ⟨h1, h2, a, h3, h4⟩
      · rw [h1, h3]; show List.lookup (Str.ofString "put") wr_KIDS = some (2 : Int); decide +kernel
      · rw [h1, h3]; show List.lookup (Str.ofString "set") wr_KIDS = some (1 : Int); decide +kernel⟩
  l1 := by simp
  l2 := by simp; omega
  ok := web_true h h1 (by omega)
  tm := (web_tame h.part h.dd (by omega)).1
  dp := (web_tame h.part h.dd (by omega)).2.2
theorem ndx_small {n : Nd} (h : TxNd n) : ∀ c ∈ ndx n, c < 128 := fun c hc => by
  have ho : ∀ o ∈ opNames, ((TL.tl o).all fun c => decide (c < 128)) = true := by decide +kernel
  have hdg : ∀ w : Int, 0 ≤ w → c ∈ dg w → c < 128 := fun w hw hc => by
    rw [dg_num hw] at hc
    have := TL.numL_digits w.toNat _ hc
    omega
  rcases joinLm hc with hc | ⟨p, hp, hc⟩
  · have := List.mem_singleton.mp hc
    omega
  rcases List.mem_append.mp hp with hp | hp
  · rcases List.mem_cons.mp hp with rfl | hp
    · exact of_decide_eq_true (List.all_eq_true.mp (ho _ h.op) _ hc)
    · rcases h.mark with ⟨_, w, e, w0, w1⟩ | ⟨_, s, e, hs⟩ | ⟨_, e⟩
      · rw [e] at hp
        rw [List.mem_singleton.mp hp] at hc
        exact hdg w w0 hc
      · rw [e] at hp
        rw [List.mem_singleton.mp hp] at hc
        have := hs.2.2 _ hc
        omega
      · rw [e] at hp; cases hp
  · obtain ⟨k, _, rfl⟩ := List.mem_map.mp hp
    exact hdg _ (by omega) hc
theorem webx_small {ns : List Nd} (h : ∀ n ∈ ns, TxNd n) : ∀ c ∈ webx ns, c < 128 := fun c hc => by
  rcases joinLm hc with hc | ⟨p, hp, hc⟩
  · simp at hc; omega
  · obtain ⟨n, hn, rfl⟩ := List.mem_map.mp hp
    exact ndx_small (h n hn) c hc
theorem texts_shaped {ss : List (List Nat)} (h : ∀ s ∈ ss, ∀ c ∈ s, c < 128) : SeqAt.shaped (.list ((ss.map mk).map PyData.str)) = true := by
  have e : ∀ ss : List (List Nat), (∀ s ∈ ss, ∀ c ∈ s, c < 128) → PyData.canLayAll0 ((ss.map mk).map PyData.str) = true ∧ PyData.depthAll ((ss.map mk).map PyData.str) = 0 := fun ss h => by
    induction ss with
    | nil => exact ⟨rfl, rfl⟩
    | cons s ss ih =>
      obtain ⟨a, b⟩ := ih fun x hx => h x (List.mem_cons_of_mem _ hx)
      have hs : PyData.strOk (mk s) = true := by
        unfold PyData.strOk
        rw [Array.all_eq_true_iff_forall_mem]
        intro c hc
        exact decide_eq_true (by have := h s List.mem_cons_self c (Array.mem_toList_iff.mpr hc); omega)
      refine ⟨?_, ?_⟩
      · show (PyData.strOk (mk s) && PyData.canLayAll0 ((ss.map mk).map PyData.str)) = true
        rw [hs, a]; rfl
      · show max 0 (PyData.depthAll ((ss.map mk).map PyData.str)) = 0
        rw [b]; rfl
  obtain ⟨a, b⟩ := e ss h
  have d : (PyData.list ((ss.map mk).map PyData.str)).depth = PyData.depthAll ((ss.map mk).map PyData.str) + 1 := rfl
  have c : (PyData.list ((ss.map mk).map PyData.str)).canLay0 = PyData.canLayAll0 ((ss.map mk).map PyData.str) := rfl
  unfold SeqAt.shaped
  rw [c, a, d, b]; rfl
def txsD (ws : List (List Nd)) : List PyData := ((ws.map webx).map mk).map PyData.str
/-- told, back: lists of webs by their cells -/
structure TB (ws : List (List Nd)) (g h : Int) (M : List Ob) (a b : Nat) (T B : List U) : Prop where
  h0 : M[0]? = some (bagO g h)
  h1 : M[1]? = some .dead
  ha : M[a]? = some (.lsp T)
  hb : M[b]? = some (.lsp B)
  va : vd M 5 (.p a) = some (.list (ws.map encWeb))
  vb : vd M 5 (.p b) = some (.list (ws.map encWeb))
  b2 : 2 ≤ b
  lt : T.length = ws.length
  lb : B.length = ws.length
  cs : ∀ u ∈ T ++ B, ∃ i ds, u = .p i ∧ 2 ≤ i ∧ M[i]? = some (.lst ds) ∧ ds.length ≤ 40
theorem at5 {α : Type} {p q x y : α} {A B : List α} {n : Nat} (hA : A.length = n) (hB : B.length = n) : ([p, q] ++ A ++ [x] ++ (B ++ [y]))[0]? = some p ∧ ([p, q] ++ A ++ [x] ++ (B ++ [y]))[1]? = some q ∧ ([p, q] ++ A ++ [x] ++ (B ++ [y]))[n + 2]? = some x ∧
    ([p, q] ++ A ++ [x] ++ (B ++ [y]))[n + 3 + n]? = some y ∧ (∀ (i : Nat) (z : α), A[i]? = some z → ([p, q] ++ A ++ [x] ++ (B ++ [y]))[2 + i]? = some z) ∧ ∀ (i : Nat) (z : α), B[i]? = some z → ([p, q] ++ A ++ [x] ++ (B ++ [y]))[n + 3 + i]? = some z := by
  have l1 : ([p, q] ++ A).length = n + 2 := by simp [hA]
  have l2 : ([p, q] ++ A ++ [x]).length = n + 3 := by simp [hA]
  refine ⟨rfl, rfl, ?_, ?_, fun i z hz => ?_, fun i z hz => ?_⟩
  · rw [List.getElem?_append_left (by rw [l2]; omega), List.getElem?_append_right (by rw [l1]; omega), l1, Nat.sub_self]; rfl
  · rw [List.getElem?_append_right (by rw [l2]; omega), l2, List.getElem?_append_right (by rw [hB]; omega), hB, show n + 3 + n - (n + 3) - n = 0 by omega]; rfl
  · have hi := (List.getElem?_eq_some_iff.mp hz).1
    rw [List.getElem?_append_left (by rw [l2]; omega), List.getElem?_append_left (by rw [l1]; omega), List.getElem?_append_right (by simp), show 2 + i - [p, q].length = i by simp]; exact hz
  · have hi := (List.getElem?_eq_some_iff.mp hz).1
    rw [List.getElem?_append_right (by rw [l2]; omega), l2, show n + 3 + i - (n + 3) = i by omega, List.getElem?_append_left hi]; exact hz
theorem progM_rn (ws : List (List Nd)) (L : Nat) : (progM ws).map (rnO (outN [] L)) = ws.map webO ++ [.lsp ((List.range' L ws.length).map U.p)] := by
  have e1 : (ws.map webO).map (rnO (outN [] L)) = ws.map webO := by
    rw [List.map_map]; rfl
  have e2 : ((List.range' 0 ws.length).map U.p).map (rnU (outN [] L)) = (List.range' L ws.length).map U.p := by
    rw [List.map_map, List.range'_eq_map_range, List.range'_eq_map_range, List.map_map, List.map_map]
    refine List.map_congr_left fun i _ => ?_
    show U.p (L + (0 + i - 0)) = U.p (L + i)
    rw [Nat.zero_add, Nat.sub_zero]
  unfold progM
  rw [List.map_append, e1]
  show ws.map webO ++ [Ob.lsp (((List.range' 0 ws.length).map U.p).map (rnU (outN [] L)))] = _
  rw [e2]
theorem tb_ok {ws : List (List Nd)} {g h : Int} (hl : ∀ ns ∈ ws, ns.length ≤ 40) : TB ws g h ([bagO g h, .dead] ++ ws.map webO ++ [.lsp ((List.range' 2 ws.length).map U.p)] ++ (progM ws).map (rnO (outN [] ([bagO g h, .dead] ++ ws.map webO ++ [Ob.lsp ((List.range' 2 ws.length).map U.p)]).length)))
    (ws.length + 2) (ws.length + 3 + ws.length) ((List.range' 2 ws.length).map U.p) ((List.range' (ws.length + 3) ws.length).map U.p) := by
  rw [show ([bagO g h, .dead] ++ ws.map webO ++ [Ob.lsp ((List.range' 2 ws.length).map U.p)]).length = ws.length + 3 by simp, progM_rn]
  obtain ⟨a0, a1, a2, a3, a4, a5⟩ := at5 (p := bagO g h) (q := Ob.dead) (x := Ob.lsp ((List.range' 2 ws.length).map U.p)) (y := Ob.lsp ((List.range' (ws.length + 3) ws.length).map U.p)) (A := ws.map webO) (B := ws.map webO) (n := ws.length) (by simp) (by simp)
  have b4 : ∀ i w, ws[i]? = some w → ([bagO g h, .dead] ++ ws.map webO ++ [Ob.lsp ((List.range' 2 ws.length).map U.p)] ++ (ws.map webO ++ [.lsp ((List.range' (ws.length + 3) ws.length).map U.p)]))[2 + i]? = some (webO w) := fun i w hi => a4 i _ (by rw [List.getElem?_map, hi]; rfl)
  have b5 : ∀ i w, ws[i]? = some w → ([bagO g h, .dead] ++ ws.map webO ++ [Ob.lsp ((List.range' 2 ws.length).map U.p)] ++ (ws.map webO ++ [.lsp ((List.range' (ws.length + 3) ws.length).map U.p)]))[ws.length + 3 + i]? = some (webO w) := fun i w hi => a5 i _ (by rw [List.getElem?_map, hi]; rfl)
  refine ⟨a0, a1, a2, a3, ?_, ?_, by omega, by simp, by simp, fun u hu => ?_⟩
  · unfold vd
    dsimp only
    rw [a2]
    dsimp only
    rw [vd_webs ws 2 b4]
  · unfold vd
    dsimp only
    rw [a3]
    dsimp only
    rw [vd_webs ws (ws.length + 3) b5]
  · have one : ∀ k, (∀ i w, ws[i]? = some w → ([bagO g h, .dead] ++ ws.map webO ++ [Ob.lsp ((List.range' 2 ws.length).map U.p)] ++ (ws.map webO ++ [.lsp ((List.range' (ws.length + 3) ws.length).map U.p)]))[k + i]? = some (webO w)) → 2 ≤ k → u ∈ (List.range' k ws.length).map U.p → ∃ i ds, u = .p i ∧ 2 ≤ i ∧ ([bagO g h, .dead] ++ ws.map webO ++ [Ob.lsp ((List.range' 2 ws.length).map U.p)] ++ (ws.map webO ++ [.lsp ((List.range' (ws.length + 3) ws.length).map U.p)]))[i]? = some (.lst ds) ∧ ds.length ≤ 40 := fun k hk h2 hu => by
      obtain ⟨j, hj, rfl⟩ := List.mem_map.mp hu
      obtain ⟨i, hi, rfl⟩ := List.mem_range'.mp hj
      have := hk i ws[i] (List.getElem?_eq_getElem hi)
      rw [show k + i = k + 1 * i by omega] at this
      exact ⟨k + 1 * i, ws[i].map Nd.enc, rfl, by omega, this, by rw [List.length_map]; exact hl _ (List.getElem_mem hi)⟩
    rcases List.mem_append.mp hu with hu | hu
    · exact one 2 b4 (Nat.le_refl _) hu
    · exact one (ws.length + 3) b5 (by omega) hu
/-- while the webs told are grown -/
structure Gr (g h : Int) (c b : Nat) (A B : List U) (us : List U) (M : List Ob) : Prop where
  h0 : M[0]? = some (bagO g h)
  h1 : M[1]? = some .dead
  hc : M[c]? = some (.lsp A)
  hb : M[b]? = some (.lsp B)
  cs : ∀ u ∈ us, ∃ i ds, u = .p i ∧ 2 ≤ i ∧ M[i]? = some (.lst ds) ∧ ds.length + us.length ≤ 1000
theorem gr_step {g h : Int} {c b : Nat} {A B : List U} {u : U} {us : List U} {M : List Ob} (k : Gr g h c b A B (u :: us) M) : ∃ i ds, u = .p i ∧ M[i]? = some (.lst ds) ∧ ds.length < 1000 ∧ Gr g h c b A B us (M.set i (.lst (ds ++ [.none]))) := by
  obtain ⟨i, ds, rfl, h2, hi, hl⟩ := k.cs u List.mem_cons_self
  rw [List.length_cons] at hl
  have ne : ∀ j X, M[j]? = some X → X ≠ Ob.lst ds → (M.set i (.lst (ds ++ [.none])))[j]? = some X := fun j X hj hX => by
    rw [List.getElem?_set_ne (fun e => hX (by rw [e, hj] at hi; exact Option.some.inj hi))]; exact hj
  refine ⟨i, ds, rfl, hi, by omega, ⟨?_, ?_, ne _ _ k.hc nofun, ne _ _ k.hb nofun, fun v hv => ?_⟩⟩
  · rw [List.getElem?_set_ne (by omega)]; exact k.h0
  · rw [List.getElem?_set_ne (by omega)]; exact k.h1
  · obtain ⟨j, es, rfl, j2, hj, jl⟩ := k.cs v (List.mem_cons_of_mem _ hv)
    rw [List.length_cons] at jl
    by_cases e : j = i
    · subst e
      rw [hi] at hj
      cases hj
      exact ⟨j, ds ++ [.none], rfl, j2, List.getElem?_set_self (List.getElem?_eq_some_iff.mp hi).1, by rw [List.length_append, List.length_singleton]; omega⟩
    · exact ⟨j, es, rfl, j2, by rw [List.getElem?_set_ne (fun z => e z.symm)]; exact hj, by omega⟩
theorem take2 {α : Type} {M : List α} {p q : α} (h0 : M[0]? = some p) (h1 : M[1]? = some q) : 2 ≤ M.length ∧ M.take 2 = [p, q] := by
  match M, h0, h1 with
  | [], h0, _ => cases h0
  | [_], _, h1 => cases h1
  | a :: b :: r, h0, h1 =>
    cases h0; cases h1
    exact ⟨by simp, rfl⟩
def spLaw (K : PySem.W.Frag) : DSp := fun us M Q => ∃ ns : List Int, us = [.s K ns] ∧ M = [] ∧ ns.length ≤ 63 ∧ Q (.d (.bool true)) []
theorem turns_at (i : Int) (h0 : 0 ≤ i) (h4 : i < 4) : ∃ m : Nat, atI ([.int 3, .int 1, .int 0, .int 20] : List PyData) i = some (.int (m : Int)) ∧ m ≤ 20 := by
  have h : i = 0 ∨ i = 1 ∨ i = 2 ∨ i = 3 := by omega
  rcases h with rfl | rfl | rfl | rfl
  · exact ⟨3, rfl, by decide⟩
  · exact ⟨1, rfl, by decide⟩
  · exact ⟨0, rfl, by decide⟩
  · exact ⟨20, rfl, by decide⟩
theorem wide_at (i : Int) (h0 : 0 ≤ i) (h2 : i < 2) : ∃ m : Int, atI ([.int 6, .int 16] : List PyData) i = some (.int m) ∧ 0 < m ∧ m ≤ 16 := by
  have h : i = 0 ∨ i = 1 := by omega
  rcases h with rfl | rfl
  · exact ⟨6, rfl, by decide, by decide⟩
  · exact ⟨16, rfl, by decide, by decide⟩
section
variable {P : Program} {w : World} {K : PySem.W.Frag} {mg : Str → Option Value} {base : Heap}
/-! ### bag -/
abbrev s_bag : Stmt := top 34
theorem sc_bag : FnScope ["_law_script", "_law_at", "_law_cell", "_law_great", "_law_primes"] ["_law_script", "_law_at"] (defScope s_bag) := ⟨rfl, rfl, rfl, by decide +kernel, rfl, by decide +kernel, by decide +kernel⟩
theorem ok_bag {f : Addr} {fd : FuncData} (F : Fun K "_law_bag" "_law_bag" s_bag f fd) (B : Bln mg) (G : Gln w K mg)
    : GnOk P w K mg base CX0 1 f fd ["_law_script", "_law_at"] (liftSp (sp_bag K)) := by
  refine okG F sc_bag (lift_len (by rintro us M Q h; obtain ⟨ns, a, rfl, _⟩ := h; rfl)) (fun cdv A outer s H vs Q E cm hr h => ?_)
  refine def_ok ((ls_seq (ls_asg le_int (lg_name (i := 2)))
      (ls_cut (ls_if (lt_test (le_op lr_gt (le_cb (lc_lenS (K := K)) (la_cons (le_var (i := 0)) la_nil)) le_int)) (ls_asg (le_op (lr_ixS (K := K)) (le_var (i := 0)) (le_op lr_mod (le_var (i := 1)) (le_cb (lc_lenS (K := K)) (la_cons (le_var (i := 0)) la_nil)))) (lg_name (i := 2))) ls_next)
      (ls_seq (ls_asg le_int (lg_name (i := 3)))
      (ls_cut (ls_if (lt_and (lt_test (le_op lr_ge (le_cb lc_abs (la_cons (le_var (i := 2)) la_nil)) (le_op lr_pow le_int le_int))) (lt_test (le_op lr_lt (le_var (i := 1)) (le_cb (lc_lenS (K := K)) (la_cons (le_var (i := 0)) la_nil))))) (ls_asg (le_cb lc_abs (la_cons (le_var (i := 2)) la_nil)) (lg_name (i := 3))) ls_next)
      (ls_seq (ls_asg (le_tup (la_cons le_int (la_cons le_int (la_cons le_int (la_cons le_int (la_cons le_int (la_cons le_int (la_cons le_int (la_cons le_int la_nil))))))))) (lg_name (i := 4)))
      (ls_ret (le_lstC (la_cons (le_var (i := 3)) (la_cons (le_op lr_mod (le_op lr_pow (le_op (lr_add (K := K)) (le_op (lr_add (K := K)) (le_op lr_mod (le_var (i := 2)) le_int) (le_op lr_mulA le_int (le_var (i := 1)))) le_int) le_int) (le_op (lr_ix (K := K)) (le_var (i := 4)) (le_op lr_mod (le_var (i := 1)) le_int))) la_nil))))))))))
    ((pss_cons (ps_set (i := 2) sc_bag.nd rfl (Or.inl rfl) pe_int)
      (pss_cons (ps_if (pt_cmpR op_gt (pe_callB (x_len (K := K) rfl) (by rfl) B.len_ bt_len (pa_cons (pv 0) pa_nil)) pe_int (by first | exact nomark _ | rfl)) (pss_one (ps_set (i := 2) sc_bag.nd rfl (Or.inl rfl) (pe_ix (x_ix (K := K) rfl) (pv 0) (pe_op op_mod (pv 1) (pe_callB (x_len (K := K) rfl) (by rfl) B.len_ bt_len (pa_cons (pv 0) pa_nil))) (fun _ _ => rfl)))) pss_nil)
      (pss_cons (ps_set (i := 3) sc_bag.nd rfl (Or.inl rfl) pe_int)
      (pss_cons (ps_if (PW.pt (pw_and (pt_cmpR op_ge (pe_callB call_abs (by rfl) B.abs_ bt_abs (pa_cons (pv 2) pa_nil)) (pe_op op_pow pe_int pe_int) (by first | exact nomark _ | rfl)) (pw_and1 (pt_cmpR op_lt (pv 1) (pe_callB (x_len (K := K) rfl) (by rfl) B.len_ bt_len (pa_cons (pv 0) pa_nil)) (by first | exact nomark _ | rfl))))) (pss_one (ps_set (i := 3) sc_bag.nd rfl (Or.inl rfl) (pe_callB call_abs (by rfl) B.abs_ bt_abs (pa_cons (pv 2) pa_nil)))) pss_nil)
      (pss_cons (ps_set (i := 4) sc_bag.nd rfl (Or.inl rfl) (pe_tup (pa_cons pe_int (pa_cons pe_int (pa_cons pe_int (pa_cons pe_int (pa_cons pe_int (pa_cons pe_int (pa_cons pe_int (pa_cons pe_int pa_nil))))))))))
      (pss_one (ps_ret (pe_lst (pa_cons (pv 3) (pa_cons (pe_op op_mod (pe_op op_pow (pe_op (x_add (K := K) rfl) (pe_op (x_add (K := K) rfl) (pe_op op_mod (pv 2) pe_int) (pe_op op_mulAll pe_int (pv 1))) pe_int) pe_int) (pe_ix (x_ix (K := K) rfl) (pv 4) (pe_op op_mod (pv 1) pe_int) (fun _ _ => rfl))) pa_nil)))))))))))
    h (fun us M Qu hd => ?_)
  obtain ⟨ns, at_, rfl, rfl, hl, h0, h1, k⟩ := hd
  refine ⟨fun ρ M => ∃ c : Int, ρ = [some (.s K ns), some (.d (.int at_)), some (.d (.int c)), none, none] ∧ M = [], ?_, ?_⟩
  · walk_at "go"
    refine witeD (fun hlt => ?_) (fun _ => ⟨0, rfl, rfl⟩)
    have hpos : (0 : Int) < ns.length := hlt
    have e0 : 0 ≤ at_ % (ns.length : Int) := Int.emod_nonneg _ (by omega)
    have e1 : at_ % (ns.length : Int) < ns.length := Int.emod_lt_of_pos _ hpos
    obtain ⟨c, hc⟩ : ∃ c, atI ns (at_ % (ns.length : Int)) = some c := by
      have hj : (at_ % (ns.length : Int)).toNat < ns.length := by omega
      refine ⟨ns[(at_ % (ns.length : Int)).toNat], ?_⟩
      unfold atI ixN
      rw [if_pos e0, if_pos e1]
      exact List.getElem?_eq_getElem hj
    walk_at "go"
    refine ⟨_, _, _, _, rfl, rfl, rfl, hpos, ?_⟩
    exact ⟨_, _, _, rfl, rfl, hc, c, rfl, rfl⟩
  · rintro _ _ ⟨c, rfl, rfl⟩
    refine ⟨fun ρ M => ∃ g : Int, 0 ≤ g ∧ ρ = [some (.s K ns), some (.d (.int at_)), some (.d (.int c)), some (.d (.int g)), none] ∧ M = [], ?_, ?_⟩
    · walk_at "go"
      refine ⟨_, _, _, _, rfl, rfl, rfl, ⟨by decide, by decide, by decide⟩, ?_⟩
      walk_at "go"
      refine witeD (fun _ => ?_) (fun _ => ?_)
      · walk_at "go"
        refine witeD (fun _ => ?_) (fun _ => ⟨0, by decide, rfl, rfl⟩)
        walk_at "go"
        exact ⟨_, (by split <;> omega), rfl, rfl⟩
      · walk_at "go"
        exact ⟨0, by decide, rfl, rfl⟩
    · rintro _ _ ⟨g, hg, rfl, rfl⟩
      walk_at "go"
      refine ⟨_, _, _, _, rfl, rfl, rfl, (by decide : (0 : Int) < 2147483647), ?_⟩
      walk_at "go"
      refine ⟨_, _, _, _, rfl, rfl, rfl, .inl ⟨by decide, by decide⟩, ?_⟩
      walk_at "go"
      have hm : 0 ≤ c % 2147483647 := Int.emod_nonneg _ (by decide)
      have hm2 : c % 2147483647 < 2147483647 := Int.emod_lt_of_pos _ (by decide)
      refine ⟨_, _, _, _, rfl, rfl, rfl, ⟨by decide, by decide, by omega⟩, ?_⟩
      walk_at "go"
      refine ⟨_, _, _, _, rfl, rfl, rfl, (by decide : (0 : Int) < 8), ?_⟩
      have hb : 0 ≤ at_ % 8 := Int.emod_nonneg _ (by decide)
      have hb2 : at_ % 8 < 8 := Int.emod_lt_of_pos _ (by decide)
      obtain ⟨p, hp, hp0, hp1⟩ := prime_at _ hb hb2
      refine ⟨_, _, _, rfl, rfl, hp, ?_⟩
      refine ⟨_, _, _, _, rfl, rfl, rfl, hp0, ?_⟩
      walk_at "go"
      refine .inl ⟨1, Nat.zero_le _, Nat.le_refl _, Nat.zero_lt_one, ?_, ?_⟩
      · intro o ho
        have e : o = _ := List.mem_singleton.mp ho
        subst e
        exact trivial
      · refine k g _ ⟨hg, Int.emod_nonneg _ (by omega), ?_⟩
        have := Int.emod_lt_of_pos ((c % 2147483647 + 104729 * at_ + 7) ^ (5 : Int).toNat) hp0
        omega
/-! ### take -/
abbrev s_take : Stmt := top 35
theorem sc_take : FnScope ["_law_bag_here", "_law_many", "_law_digit"] ["_law_bag_here", "_law_many"] (defScope s_take) := ⟨rfl, rfl, rfl, by decide +kernel, rfl, by decide +kernel, by decide +kernel⟩
theorem ok_take {f : Addr} {fd : FuncData} (F : Fun K "_law_take" "_law_take" s_take f fd) (B : Bln mg) (G : Gln w K mg)
    : GnOk P w K mg base CX0 1 f fd ["_law_bag_here", "_law_many"] (liftSp sp_take) := by
  refine okG F sc_take (lift_len (by rintro us M Q h; obtain ⟨g, h, n, rfl, _⟩ := h; rfl)) (fun cdv A outer s H vs Q E cm hr h => ?_)
  refine def_ok ((ls_seq (ls_if (lt_test (le_op lr_gt (le_op (lr_ix (K := K)) (le_var (i := 0)) le_int) le_int)) (ls_seq (ls_asg (le_op lr_mod (le_op (lr_ix (K := K)) (le_var (i := 0)) le_int) (le_var (i := 1))) (lg_name (i := 2)))
      (ls_seq (ls_asg (le_op lr_divW (le_op (lr_ix (K := K)) (le_var (i := 0)) le_int) (le_var (i := 1))) (lg_sub (le_var (i := 0)) le_int lset_list))
      (ls_ret (le_var (i := 2))))) ls_next)
      (ls_seq (ls_asg (le_op lr_mod (le_op (lr_add (K := K)) (le_op lr_mulA (le_op (lr_ix (K := K)) (le_var (i := 0)) le_int) le_int) le_int) le_int) (lg_sub (le_var (i := 0)) le_int lset_list))
      (ls_ret (le_op lr_mod (le_op lr_mod (le_op lr_pow (le_op lr_divW (le_op (lr_ix (K := K)) (le_var (i := 0)) le_int) le_int) le_int) le_int) (le_var (i := 1)))))))
    ((pss_cons (ps_if (pt_cmpR op_gt (pe_ix (x_ix (K := K) rfl) (pv 0) pe_int (fun _ _ => rfl)) pe_int (by first | exact nomark _ | rfl)) (pss_cons (ps_set (i := 2) sc_take.nd rfl (Or.inl rfl) (pe_op op_mod (pe_ix (x_ix (K := K) rfl) (pv 0) pe_int (fun _ _ => rfl)) (pv 1)))
      (pss_cons (ps_asg (pe_op op_fdivW (pe_ix (x_ix (K := K) rfl) (pv 0) pe_int (fun _ _ => rfl)) (pv 1)) (pg_sub (pv 0) pe_int set_list (fun _ => rfl)))
      (pss_one (ps_ret (pv 2))))) pss_nil)
      (pss_cons (ps_asg (pe_op op_mod (pe_op (x_add (K := K) rfl) (pe_op op_mulAll (pe_ix (x_ix (K := K) rfl) (pv 0) pe_int (fun _ _ => rfl)) pe_int) pe_int) pe_int) (pg_sub (pv 0) pe_int set_list (fun _ => rfl)))
      (pss_one (ps_ret (pe_op op_mod (pe_op op_mod (pe_op op_pow (pe_op op_fdivW (pe_ix (x_ix (K := K) rfl) (pv 0) pe_int (fun _ _ => rfl)) pe_int) pe_int) pe_int) (pv 1)))))))
    h (fun us M Qu hd => ?_)
  obtain ⟨g, h, n, rfl, rfl, ⟨hg, hh, hh2⟩, hn, hn2, k⟩ := hd
  have hw : CDivW g n := wide_div hn (b := 32) (by omega) (by decide) (by decide)
  walk_at "go"
  refine witeD (fun h0 => ?_) (fun h0 => ?_)
  · walk_at "go"
    refine ⟨_, _, _, _, rfl, rfl, rfl, hn, ?_⟩
    walk_at "go"
    refine ⟨_, _, _, _, rfl, rfl, rfl, hw, ?_⟩
    walk_at "go"
    refine ⟨_, _, _, _, _, rfl, rfl, rfl, rfl, rfl, ?_⟩
    walk_at "go"
    refine fin_d (Nat.le_refl _) (fun o ho => ?_) (k _ _ _ (Int.emod_nonneg _ (by omega)) (Int.emod_lt_of_pos _ hn) ⟨Int.ediv_nonneg hg (by omega), hh, hh2⟩)
    have e : o = _ := List.mem_singleton.mp ho
    subst e
    exact trivial
  · walk_at "go"
    refine ⟨_, _, _, _, rfl, rfl, rfl, .inr ⟨by decide, by decide⟩, ?_⟩
    walk_at "go"
    refine ⟨_, _, _, _, rfl, rfl, rfl, (by decide : (0 : Int) < 2147483647), ?_⟩
    walk_at "go"
    refine ⟨_, _, _, _, _, rfl, rfl, rfl, rfl, rfl, ?_⟩
    have e0 : 0 ≤ (h * 48271 + 11) % 2147483647 := Int.emod_nonneg _ (by decide)
    have e1 : (h * 48271 + 11) % 2147483647 < 2147483647 := Int.emod_lt_of_pos _ (by decide)
    walk_at "go"
    refine ⟨_, _, _, _, rfl, rfl, rfl, wide_div (b := 32) (by decide) (by decide) (by decide) (by decide), ?_⟩
    walk_at "go"
    have e2 : 0 ≤ (h * 48271 + 11) % 2147483647 / 8 := Int.ediv_nonneg e0 (by decide)
    have e3 : (h * 48271 + 11) % 2147483647 / 8 ≤ 2147483647 := by omega
    refine ⟨_, _, _, _, rfl, rfl, rfl, ⟨by decide, by decide, by omega⟩, ?_⟩
    walk_at "go"
    refine ⟨_, _, _, _, rfl, rfl, rfl, (by decide : (0 : Int) < 2147483629), ?_⟩
    walk_at "go"
    refine ⟨_, _, _, _, rfl, rfl, rfl, hn, ?_⟩
    refine fin_d (Nat.le_refl _) (fun o ho => ?_) (k _ _ _ (Int.emod_nonneg _ (by omega)) (Int.emod_lt_of_pos _ hn) ⟨hg, e0, e1⟩)
    have e : o = _ := List.mem_singleton.mp ho
    subst e
    exact trivial

/-! ### leaf -/
abbrev s_leaf : Stmt := top 36
theorem sc_leaf : FnScope ["_law_bag_here"] ["_law_bag_here"] (defScope s_leaf) := ⟨rfl, rfl, rfl, by decide +kernel, rfl, by decide +kernel, by decide +kernel⟩
theorem ok_leaf {f : Addr} {fd : FuncData} (F : Fun K "_law_leaf" "_law_leaf" s_leaf f fd) (B : Bln mg) (G : Gln w K mg)
    {f_take : Addr} {fd_take : FuncData} (g_take : GnOk P w K mg base CX0 1 f_take fd_take ["_law_bag_here", "_law_many"] (liftSp sp_take)) (m_take : mg "_law_take" = some (.ref f_take)) (k_take : PySem.W.keepIn K (.ref f_take) = true) (b_take : Binds K fd_take ["_law_bag_here", "_law_many"] [])
    : GnOk P w K mg base CX0 2 f fd ["_law_bag_here"] (liftSp sp_leaf) := by
  refine okG F sc_leaf (lift_len (by rintro us M Q h; obtain ⟨g, h, rfl, _⟩ := h; rfl)) (fun cdv A outer s H vs Q E cm hr h => ?_)
  refine def_ok ((ls_seq (ls_if (lt_test (le_op (lr_eq (K := K)) (le_callC (is := [0]) (dv := []) (fun _ => .nil) (la_cons (le_var (i := 0)) (la_cons le_int la_nil))) le_int)) (ls_ret (le_tup (la_cons le_str (la_cons (le_op (lr_ix (K := K)) (le_tup (la_cons le_str (la_cons le_str (la_cons le_str (la_cons le_str la_nil))))) (le_callC (is := [0]) (dv := []) (fun _ => .nil) (la_cons (le_var (i := 0)) (la_cons le_int la_nil)))) (la_cons (le_tup la_nil) la_nil))))) ls_next)
      (ls_ret (le_tup (la_cons le_str (la_cons (le_op (lr_ix (K := K)) (le_tup (la_cons (le_callC (is := [0]) (dv := []) (fun _ => .nil) (la_cons (le_var (i := 0)) (la_cons le_int la_nil))) (la_cons (le_callC (is := [0]) (dv := []) (fun _ => .nil) (la_cons (le_var (i := 0)) (la_cons le_int la_nil))) (la_cons (le_callC (is := [0]) (dv := []) (fun _ => .nil) (la_cons (le_var (i := 0)) (la_cons le_int la_nil))) (la_cons le_int la_nil))))) (le_callC (is := [0]) (dv := []) (fun _ => .nil) (la_cons (le_var (i := 0)) (la_cons le_int la_nil)))) (la_cons (le_tup la_nil) la_nil)))))))
    ((pss_cons (ps_if (pt_cmpR (x_eq (K := K) rfl (hu64 hr)) (pe_callG g_take cm (hr.mono (by omega)) (by rfl) m_take k_take b_take .nil pass0 (pa_cons (pv 0) (pa_cons pe_int pa_nil))) pe_int (by first | exact nomark _ | rfl)) (pss_one (ps_ret (pe_tup (pa_cons pe_str (pa_cons (pe_ix (x_ix (K := K) rfl) (pe_tup (pa_cons pe_str (pa_cons pe_str (pa_cons pe_str (pa_cons pe_str pa_nil))))) (pe_callG g_take cm (hr.mono (by omega)) (by rfl) m_take k_take b_take .nil pass0 (pa_cons (pv 0) (pa_cons pe_int pa_nil))) (fun _ _ => rfl)) (pa_cons (pe_tup pa_nil) pa_nil)))))) pss_nil)
      (pss_one (ps_ret (pe_tup (pa_cons pe_str (pa_cons (pe_ix (x_ix (K := K) rfl) (pe_tup (pa_cons (pe_callG g_take cm (hr.mono (by omega)) (by rfl) m_take k_take b_take .nil pass0 (pa_cons (pv 0) (pa_cons pe_int pa_nil))) (pa_cons (pe_callG g_take cm (hr.mono (by omega)) (by rfl) m_take k_take b_take .nil pass0 (pa_cons (pv 0) (pa_cons pe_int pa_nil))) (pa_cons (pe_callG g_take cm (hr.mono (by omega)) (by rfl) m_take k_take b_take .nil pass0 (pa_cons (pv 0) (pa_cons pe_int pa_nil))) (pa_cons pe_int pa_nil))))) (pe_callG g_take cm (hr.mono (by omega)) (by rfl) m_take k_take b_take .nil pass0 (pa_cons (pv 0) (pa_cons pe_int pa_nil))) (fun _ _ => rfl)) (pa_cons (pe_tup pa_nil) pa_nil))))))))
    h (fun us M Qu hd => ?_)
  obtain ⟨g, h, rfl, rfl, hb, k⟩ := hd
  walk_at "go"
  refine ⟨_, _, 3, rfl, rfl, hb, by first | decide | omega | (simp only [List.length_map, len_kids]; omega) | (simp <;> omega), by first | decide | omega | (simp only [List.length_map, len_kids]; omega) | (simp <;> omega), fun r g h r_0 r_1 hb => ?_⟩
  walk_at "go"
  rw [eqv_i]
  refine witeD (fun _ => ?_) (fun _ => ?_)
  · walk_at "go"
    refine ⟨_, _, 4, rfl, rfl, hb, by first | decide | omega | (simp only [List.length_map, len_kids]; omega) | (simp <;> omega), by first | decide | omega | (simp only [List.length_map, len_kids]; omega) | (simp <;> omega), fun t g h t_0 t_1 hb => ?_⟩
    obtain ⟨s, hs, hs2⟩ := names4 t t_0 t_1
    refine ⟨_, _, _, rfl, rfl, ix_t hs, ?_⟩
    walk_at "go"
    exact fin_be (z := (Nd.mk "var" (.str s) []).enc) rfl (k ⟨"var", .str s, []⟩ _ _ ⟨.inr ⟨rfl, s, rfl, hs2⟩, rfl⟩ hb)
  · walk_at "go"
    refine ⟨_, _, 4, rfl, rfl, hb, by first | decide | omega | (simp only [List.length_map, len_kids]; omega) | (simp <;> omega), by first | decide | omega | (simp only [List.length_map, len_kids]; omega) | (simp <;> omega), fun a g h a_0 a_1 hb => ?_⟩
    walk_at "go"
    refine ⟨_, _, 20, rfl, rfl, hb, by first | decide | omega | (simp only [List.length_map, len_kids]; omega) | (simp <;> omega), by first | decide | omega | (simp only [List.length_map, len_kids]; omega) | (simp <;> omega), fun b g h b_0 b_1 hb => ?_⟩
    walk_at "go"
    refine ⟨_, _, 65536, rfl, rfl, hb, by first | decide | omega | (simp only [List.length_map, len_kids]; omega) | (simp <;> omega), by first | decide | omega | (simp only [List.length_map, len_kids]; omega) | (simp <;> omega), fun c g h c_0 c_1 hb => ?_⟩
    walk_at "go"
    refine ⟨_, _, 4, rfl, rfl, hb, by first | decide | omega | (simp only [List.length_map, len_kids]; omega) | (simp <;> omega), by first | decide | omega | (simp only [List.length_map, len_kids]; omega) | (simp <;> omega), fun t g h t_0 t_1 hb => ?_⟩
    have ht : ∃ w : Int, atI ([.int a, .int b, .int c, .int 65535] : List PyData) t = some (.int w) ∧ 0 ≤ w ∧ w < 65536 := by
      have h : t = 0 ∨ t = 1 ∨ t = 2 ∨ t = 3 := by omega
      rcases h with rfl | rfl | rfl | rfl
      · exact ⟨a, rfl, a_0, by omega⟩
      · exact ⟨b, rfl, b_0, by omega⟩
      · exact ⟨c, rfl, c_0, by omega⟩
      · exact ⟨65535, rfl, by decide, by decide⟩
    obtain ⟨w, hw, w0, w1⟩ := ht
    refine ⟨_, _, _, rfl, rfl, ix_t hw, ?_⟩
    walk_at "go"
    exact fin_be (z := (Nd.mk "num" (.int w) []).enc) rfl (k ⟨"num", .int w, []⟩ _ _ ⟨.inl ⟨rfl, w, rfl, w0, w1⟩, rfl⟩ hb)
/-! ### web -/
abbrev s_web : Stmt := top 37
theorem sc_web : FnScope ["_law_bag_here", "_law_many", "_law_shared", "_law_web_here", "_law_loose", "_law_k", "_law_way", "_law_kid", "_law_first", "_law_kids", "_law_op"] ["_law_bag_here", "_law_many", "_law_shared"] (defScope s_web) := ⟨rfl, rfl, rfl, by decide +kernel, rfl, by decide +kernel, by decide +kernel⟩
theorem ok_web {f : Addr} {fd : FuncData} (F : Fun K "_law_web" "_law_web" s_web f fd) (B : Bln mg) (G : Gln w K mg)
    {f_take : Addr} {fd_take : FuncData} (g_take : GnOk P w K mg base CX0 1 f_take fd_take ["_law_bag_here", "_law_many"] (liftSp sp_take)) (m_take : mg "_law_take" = some (.ref f_take)) (k_take : PySem.W.keepIn K (.ref f_take) = true) (b_take : Binds K fd_take ["_law_bag_here", "_law_many"] [])
    {f_leaf : Addr} {fd_leaf : FuncData} (g_leaf : GnOk P w K mg base CX0 2 f_leaf fd_leaf ["_law_bag_here"] (liftSp sp_leaf)) (m_leaf : mg "_law_leaf" = some (.ref f_leaf)) (k_leaf : PySem.W.keepIn K (.ref f_leaf) = true) (b_leaf : Binds K fd_leaf ["_law_bag_here"] [])
    : GnOk P w K mg base CX0 3 f fd ["_law_bag_here", "_law_many", "_law_shared"] (liftSp sp_web2) := by
  refine okG F sc_web (lift_len (by rintro us M Q h; obtain ⟨g, h, many, shared, rfl, _⟩ := h; rfl)) (fun cdv A outer s H vs Q E cm hr h => ?_)
  refine def_ok ((ls_seq (ls_par (i := 3) (j := 4) (la_cons (le_lstC la_nil) (la_cons (le_lstC la_nil) la_nil)))
      (ls_cut (ls_for (li_rng1 (la_cons (le_var (i := 1)) la_nil)) (lg_name (i := 5)) (ls_seq (ls_asg (le_callC (is := [0]) (dv := []) (fun _ => .nil) (la_cons (le_var (i := 0)) (la_cons le_int la_nil))) (lg_name (i := 6)))
      (ls_cut (ls_tr (ls_if (lt_or (lt_test (le_op (lr_eq (K := K)) (le_var (i := 4)) (le_lst la_nil))) (lt_test (le_op (lr_eq (K := K)) (le_var (i := 6)) le_int))) (ls_drop (le_bm (K := K) (ty_list (K := K)) lm_append (le_var (i := 3)) (la_cons (le_callC (is := [0]) (dv := []) (fun _ => .nil) (la_cons (le_var (i := 0)) la_nil)) la_nil))) (ls_if (lt_test (le_op (lr_eq (K := K)) (le_var (i := 6)) le_int)) (ls_seq (ls_asg (le_bm (K := K) (ty_list (K := K)) lm_popAt (le_var (i := 4)) (la_cons (le_callC (is := [0]) (dv := []) (fun _ => .nil) (la_cons (le_var (i := 0)) (la_cons (le_cb (lc_len (K := K)) (la_cons (le_var (i := 4)) la_nil)) la_nil))) la_nil)) (lg_name (i := 7)))
      (ls_drop (le_bm (K := K) (ty_list (K := K)) lm_append (le_var (i := 3)) (la_cons (le_tup (la_cons (le_op (lr_ix (K := K)) (le_tup (la_cons le_str (la_cons le_str (la_cons le_str la_nil)))) (le_callC (is := [0]) (dv := []) (fun _ => .nil) (la_cons (le_var (i := 0)) (la_cons le_int la_nil)))) (la_cons le_non (la_cons (le_tup (la_cons (le_var (i := 7)) la_nil)) la_nil)))) la_nil)))) (ls_seq (ls_asg (le_bm (K := K) (ty_list (K := K)) lm_popAt (le_var (i := 4)) (la_cons (le_callC (is := [0]) (dv := []) (fun _ => .nil) (la_cons (le_var (i := 0)) (la_cons (le_cb (lc_len (K := K)) (la_cons (le_var (i := 4)) la_nil)) la_nil))) la_nil)) (lg_name (i := 8)))
      (ls_seq (ls_asg (le_lstC (la_cons (le_var (i := 8)) la_nil)) (lg_name (i := 9)))
      (ls_cut (ls_if (lt_and (lt_B (le_var (i := 2))) (lt_test (le_op (lr_eq (K := K)) (le_callC (is := [0]) (dv := []) (fun _ => .nil) (la_cons (le_var (i := 0)) (la_cons le_int la_nil))) le_int))) (ls_drop (le_bm (K := K) (ty_list (K := K)) lm_append (le_var (i := 9)) (la_cons (le_callC (is := [0]) (dv := []) (fun _ => .nil) (la_cons (le_var (i := 0)) (la_cons (le_cb (lc_len (K := K)) (la_cons (le_var (i := 3)) la_nil)) la_nil))) la_nil))) (ls_if (lt_test (le_op (lr_ne (K := K)) (le_var (i := 4)) (le_lst la_nil))) (ls_drop (le_bm (K := K) (ty_list (K := K)) lm_append (le_var (i := 9)) (la_cons (le_bm (K := K) (ty_list (K := K)) lm_popAt (le_var (i := 4)) (la_cons (le_callC (is := [0]) (dv := []) (fun _ => .nil) (la_cons (le_var (i := 0)) (la_cons (le_cb (lc_len (K := K)) (la_cons (le_var (i := 4)) la_nil)) la_nil))) la_nil)) la_nil))) ls_next))
      (ls_cut (ls_if (lt_and (lt_test (le_op (lr_ne (K := K)) (le_sl (K := K) (le_var (i := 9)) (lo_some le_int) lo_none) (le_lst la_nil))) (lt_test (le_op (lr_in (K := K)) (le_op (lr_ix (K := K)) (le_var (i := 9)) le_int) (le_var (i := 4))))) (ls_drop (le_bm (K := K) (ty_list (K := K)) lm_remI (le_var (i := 4)) (la_cons (le_op (lr_ix (K := K)) (le_var (i := 9)) le_int) la_nil))) ls_next)
      (ls_seq (ls_asg (le_op (lr_ix (K := K)) (le_tup (la_cons le_str (la_cons le_str (la_cons le_str (la_cons le_str (la_cons le_str (la_cons le_str (la_cons le_str (la_cons le_str la_nil))))))))) (le_if (lt_test (le_op (lr_eq (K := K)) (le_cb (lc_len (K := K)) (la_cons (le_var (i := 9)) la_nil)) le_int)) (le_callC (is := [0]) (dv := []) (fun _ => .nil) (la_cons (le_var (i := 0)) (la_cons le_int la_nil))) le_int)) (lg_name (i := 10)))
      (ls_drop (le_bm (K := K) (ty_list (K := K)) lm_append (le_var (i := 3)) (la_cons (le_tup (la_cons (le_var (i := 10)) (la_cons le_non (la_cons (le_cb (lc_tupOf (K := K)) (la_cons (le_var (i := 9)) la_nil)) la_nil)))) la_nil)))))))))))
      (ls_drop (le_bm (K := K) (ty_list (K := K)) lm_append (le_var (i := 4)) (la_cons (le_op lr_sub (le_cb (lc_len (K := K)) (la_cons (le_var (i := 3)) la_nil)) le_int) la_nil))))))
      (ls_cut (ls_while (lt_test (le_op lr_gt (le_cb (lc_len (K := K)) (la_cons (le_var (i := 4)) la_nil)) le_int)) (ls_seq (ls_asg (le_tup (la_cons (le_bm (K := K) (ty_list (K := K)) lm_popAt (le_var (i := 4)) (la_cons (le_callC (is := [0]) (dv := []) (fun _ => .nil) (la_cons (le_var (i := 0)) (la_cons (le_cb (lc_len (K := K)) (la_cons (le_var (i := 4)) la_nil)) la_nil))) la_nil)) (la_cons (le_bm (K := K) (ty_list (K := K)) lm_popAt (le_var (i := 4)) (la_cons le_int la_nil)) la_nil))) (lg_name (i := 9)))
      (ls_seq (ls_drop (le_bm (K := K) (ty_list (K := K)) lm_append (le_var (i := 3)) (la_cons (le_tup (la_cons (le_op (lr_ix (K := K)) (le_tup (la_cons le_str (la_cons le_str la_nil))) (le_callC (is := [0]) (dv := []) (fun _ => .nil) (la_cons (le_var (i := 0)) (la_cons le_int la_nil)))) (la_cons le_non (la_cons (le_var (i := 9)) la_nil)))) la_nil)))
      (ls_drop (le_bm (K := K) (ty_list (K := K)) lm_append (le_var (i := 4)) (la_cons (le_op lr_sub (le_cb (lc_len (K := K)) (la_cons (le_var (i := 3)) la_nil)) le_int) la_nil))))))
      (ls_seq (ls_if (lt_test (le_op (lr_eq (K := K)) (le_cb (lc_len (K := K)) (la_cons (le_var (i := 4)) la_nil)) le_int)) (ls_ret (le_op (lr_add (K := K)) (le_var (i := 3)) (le_lst (la_cons (le_tup (la_cons le_str (la_cons le_non (la_cons (le_cb (lc_tupOf (K := K)) (la_cons (le_slS (K := K) (le_var (i := 4)) (le_op lr_sub le_int (le_op lr_mulA le_int (le_callC (is := [0]) (dv := []) (fun _ => .nil) (la_cons (le_var (i := 0)) (la_cons le_int la_nil)))))) la_nil)) la_nil)))) la_nil)))) ls_next)
      (ls_seq (ls_if (lt_and (lt_B (le_var (i := 2))) (lt_test (le_op (lr_eq (K := K)) (le_callC (is := [0]) (dv := []) (fun _ => .nil) (la_cons (le_var (i := 0)) (la_cons le_int la_nil))) le_int))) (ls_ret (le_op (lr_add (K := K)) (le_var (i := 3)) (le_lst (la_cons (le_tup (la_cons le_str (la_cons le_non (la_cons (le_tup (la_cons (le_op (lr_ix (K := K)) (le_var (i := 4)) le_int) (la_cons (le_callC (is := [0]) (dv := []) (fun _ => .nil) (la_cons (le_var (i := 0)) (la_cons (le_cb (lc_len (K := K)) (la_cons (le_var (i := 3)) la_nil)) la_nil))) la_nil))) la_nil)))) la_nil)))) ls_next)
      (ls_ret (le_op (lr_add (K := K)) (le_var (i := 3)) (le_lst (la_cons (le_tup (la_cons le_str (la_cons (le_op (lr_ix (K := K)) (le_tup (la_cons le_str (la_cons le_str (la_cons le_str la_nil)))) (le_callC (is := [0]) (dv := []) (fun _ => .nil) (la_cons (le_var (i := 0)) (la_cons le_int la_nil)))) (la_cons (le_tup (la_cons (le_op (lr_ix (K := K)) (le_var (i := 4)) le_int) la_nil)) la_nil)))) la_nil))))))))))
    ((pss_cons (ps_par (i := 3) (j := 4) rfl sc_web.nd rfl rfl (by decide) rfl rfl (pa_cons (pe_lst pa_nil) (pa_cons (pe_lst pa_nil) pa_nil)) rfl)
      (pss_cons (ps_for PassesOwn.never rfl (pi_range1 (by rfl) B.range_ (pa_cons (pv 1) pa_nil)) (pg_name (i := 5) sc_web.nd rfl (Or.inl rfl)) (pss_cons (ps_set (i := 6) sc_web.nd rfl (Or.inl rfl) (pe_callG g_take cm (hr.mono (by omega)) (by rfl) m_take k_take b_take .nil pass0 (pa_cons (pv 0) (pa_cons pe_int pa_nil))))
      (pss_cons (ps_if (PW.pt (pw_or (pt_cmpR (x_eq (K := K) rfl (hu64 hr)) (pv 4) (pe_lst pa_nil) (by first | exact nomark _ | rfl)) (pw_or1 (pt_cmpR (x_eq (K := K) rfl (hu64 hr)) (pv 6) pe_int (by first | exact nomark _ | rfl))))) (pss_one (ps_expr (pe_bm PySem.F.plainAttrs_list PySem.F.slot_list_append PySem.F.type_list_append mt_append (pv 3) (pa_cons (pe_callG g_leaf cm (hr.mono (by omega)) (by rfl) m_leaf k_leaf b_leaf .nil pass0 (pa_cons (pv 0) pa_nil)) pa_nil)))) (pss_one (ps_if (pt_cmpR (x_eq (K := K) rfl (hu64 hr)) (pv 6) pe_int (by first | exact nomark _ | rfl)) (pss_cons (ps_set (i := 7) sc_web.nd rfl (Or.inl rfl) (pe_bm PySem.F.plainAttrs_list PySem.F.slot_list_pop PySem.F.type_list_pop mt_popAt (pv 4) (pa_cons (pe_callG g_take cm (hr.mono (by omega)) (by rfl) m_take k_take b_take .nil pass0 (pa_cons (pv 0) (pa_cons (pe_callB (x_len (K := K) rfl) (by rfl) B.len_ bt_len (pa_cons (pv 4) pa_nil)) pa_nil))) pa_nil)))
      (pss_one (ps_expr (pe_bm PySem.F.plainAttrs_list PySem.F.slot_list_append PySem.F.type_list_append mt_append (pv 3) (pa_cons (pe_tup (pa_cons (pe_ix (x_ix (K := K) rfl) (pe_tup (pa_cons pe_str (pa_cons pe_str (pa_cons pe_str pa_nil)))) (pe_callG g_take cm (hr.mono (by omega)) (by rfl) m_take k_take b_take .nil pass0 (pa_cons (pv 0) (pa_cons pe_int pa_nil))) (fun _ _ => rfl)) (pa_cons pe_non (pa_cons (pe_tup (pa_cons (pv 7) pa_nil)) pa_nil)))) pa_nil))))) (pss_cons (ps_set (i := 8) sc_web.nd rfl (Or.inl rfl) (pe_bm PySem.F.plainAttrs_list PySem.F.slot_list_pop PySem.F.type_list_pop mt_popAt (pv 4) (pa_cons (pe_callG g_take cm (hr.mono (by omega)) (by rfl) m_take k_take b_take .nil pass0 (pa_cons (pv 0) (pa_cons (pe_callB (x_len (K := K) rfl) (by rfl) B.len_ bt_len (pa_cons (pv 4) pa_nil)) pa_nil))) pa_nil)))
      (pss_cons (ps_set (i := 9) sc_web.nd rfl (Or.inl rfl) (pe_lst (pa_cons (pv 8) pa_nil)))
      (pss_cons (ps_if (PW.pt (pw_and (pt_val (pv 2)) (pw_and1 (pt_cmpR (x_eq (K := K) rfl (hu64 hr)) (pe_callG g_take cm (hr.mono (by omega)) (by rfl) m_take k_take b_take .nil pass0 (pa_cons (pv 0) (pa_cons pe_int pa_nil))) pe_int (by first | exact nomark _ | rfl))))) (pss_one (ps_expr (pe_bm PySem.F.plainAttrs_list PySem.F.slot_list_append PySem.F.type_list_append mt_append (pv 9) (pa_cons (pe_callG g_take cm (hr.mono (by omega)) (by rfl) m_take k_take b_take .nil pass0 (pa_cons (pv 0) (pa_cons (pe_callB (x_len (K := K) rfl) (by rfl) B.len_ bt_len (pa_cons (pv 3) pa_nil)) pa_nil))) pa_nil)))) (pss_one (ps_if (pt_cmpR (x_ne (K := K) rfl (hu64 hr)) (pv 4) (pe_lst pa_nil) (by first | exact nomark _ | rfl)) (pss_one (ps_expr (pe_bm PySem.F.plainAttrs_list PySem.F.slot_list_append PySem.F.type_list_append mt_append (pv 9) (pa_cons (pe_bm PySem.F.plainAttrs_list PySem.F.slot_list_pop PySem.F.type_list_pop mt_popAt (pv 4) (pa_cons (pe_callG g_take cm (hr.mono (by omega)) (by rfl) m_take k_take b_take .nil pass0 (pa_cons (pv 0) (pa_cons (pe_callB (x_len (K := K) rfl) (by rfl) B.len_ bt_len (pa_cons (pv 4) pa_nil)) pa_nil))) pa_nil)) pa_nil)))) pss_nil)))
      (pss_cons (ps_if (PW.pt (pw_and (pt_cmpR (x_ne (K := K) rfl (hu64 hr)) (pe_slice (x_sl (K := K) rfl) (pv 9) (po_some pe_int) po_none) (pe_lst pa_nil) (by first | exact nomark _ | rfl)) (pw_and1 (pt_cmpR (x_in (K := K) rfl (hu65 hr)) (pe_ix (x_ix (K := K) rfl) (pv 9) pe_int (fun _ _ => rfl)) (pv 4) (by first | exact nomark _ | rfl))))) (pss_one (ps_expr (pe_bm PySem.F.plainAttrs_list PySem.F.slot_list_remove PySem.F.type_list_remove mt_remove (pv 4) (pa_cons (pe_ix (x_ix (K := K) rfl) (pv 9) pe_int (fun _ _ => rfl)) pa_nil)))) pss_nil)
      (pss_cons (ps_set (i := 10) sc_web.nd rfl (Or.inl rfl) (pe_ix (x_ix (K := K) rfl) (pe_tup (pa_cons pe_str (pa_cons pe_str (pa_cons pe_str (pa_cons pe_str (pa_cons pe_str (pa_cons pe_str (pa_cons pe_str (pa_cons pe_str pa_nil))))))))) (pe_ifExp (pt_cmpR (x_eq (K := K) rfl (hu64 hr)) (pe_callB (x_len (K := K) rfl) (by rfl) B.len_ bt_len (pa_cons (pv 9) pa_nil)) pe_int (by first | exact nomark _ | rfl)) (pe_callG g_take cm (hr.mono (by omega)) (by rfl) m_take k_take b_take .nil pass0 (pa_cons (pv 0) (pa_cons pe_int pa_nil))) pe_int) (fun _ _ => rfl)))
      (pss_one (ps_expr (pe_bm PySem.F.plainAttrs_list PySem.F.slot_list_append PySem.F.type_list_append mt_append (pv 3) (pa_cons (pe_tup (pa_cons (pv 10) (pa_cons pe_non (pa_cons (pe_callTy (x_tupOf (K := K) rfl) (by rfl) B.tuple_ bt_tuple (pa_cons (pv 9) pa_nil)) pa_nil)))) pa_nil))))))))))))
      (pss_one (ps_expr (pe_bm PySem.F.plainAttrs_list PySem.F.slot_list_append PySem.F.type_list_append mt_append (pv 4) (pa_cons (pe_op op_sub (pe_callB (x_len (K := K) rfl) (by rfl) B.len_ bt_len (pa_cons (pv 3) pa_nil)) pe_int) pa_nil)))))))
      (pss_cons (ps_while PassesOwn.never (pt_cmpR op_gt (pe_callB (x_len (K := K) rfl) (by rfl) B.len_ bt_len (pa_cons (pv 4) pa_nil)) pe_int (by first | exact nomark _ | rfl)) (pss_cons (ps_set (i := 9) sc_web.nd rfl (Or.inl rfl) (pe_tup (pa_cons (pe_bm PySem.F.plainAttrs_list PySem.F.slot_list_pop PySem.F.type_list_pop mt_popAt (pv 4) (pa_cons (pe_callG g_take cm (hr.mono (by omega)) (by rfl) m_take k_take b_take .nil pass0 (pa_cons (pv 0) (pa_cons (pe_callB (x_len (K := K) rfl) (by rfl) B.len_ bt_len (pa_cons (pv 4) pa_nil)) pa_nil))) pa_nil)) (pa_cons (pe_bm PySem.F.plainAttrs_list PySem.F.slot_list_pop PySem.F.type_list_pop mt_popAt (pv 4) (pa_cons pe_int pa_nil)) pa_nil))))
      (pss_cons (ps_expr (pe_bm PySem.F.plainAttrs_list PySem.F.slot_list_append PySem.F.type_list_append mt_append (pv 3) (pa_cons (pe_tup (pa_cons (pe_ix (x_ix (K := K) rfl) (pe_tup (pa_cons pe_str (pa_cons pe_str pa_nil))) (pe_callG g_take cm (hr.mono (by omega)) (by rfl) m_take k_take b_take .nil pass0 (pa_cons (pv 0) (pa_cons pe_int pa_nil))) (fun _ _ => rfl)) (pa_cons pe_non (pa_cons (pv 9) pa_nil)))) pa_nil)))
      (pss_one (ps_expr (pe_bm PySem.F.plainAttrs_list PySem.F.slot_list_append PySem.F.type_list_append mt_append (pv 4) (pa_cons (pe_op op_sub (pe_callB (x_len (K := K) rfl) (by rfl) B.len_ bt_len (pa_cons (pv 3) pa_nil)) pe_int) pa_nil)))))))
      (pss_cons (ps_if (pt_cmpR (x_eq (K := K) rfl (hu64 hr)) (pe_callB (x_len (K := K) rfl) (by rfl) B.len_ bt_len (pa_cons (pv 4) pa_nil)) pe_int (by first | exact nomark _ | rfl)) (pss_one (ps_ret (pe_op (x_add (K := K) rfl) (pv 3) (pe_lst (pa_cons (pe_tup (pa_cons pe_str (pa_cons pe_non (pa_cons (pe_callTy (x_tupOf (K := K) rfl) (by rfl) B.tuple_ bt_tuple (pa_cons (pe_slS (pv 4) (pe_op op_sub pe_int (pe_op op_mulAll pe_int (pe_callG g_take cm (hr.mono (by omega)) (by rfl) m_take k_take b_take .nil pass0 (pa_cons (pv 0) (pa_cons pe_int pa_nil)))))) pa_nil)) pa_nil)))) pa_nil))))) pss_nil)
      (pss_cons (ps_if (PW.pt (pw_and (pt_val (pv 2)) (pw_and1 (pt_cmpR (x_eq (K := K) rfl (hu64 hr)) (pe_callG g_take cm (hr.mono (by omega)) (by rfl) m_take k_take b_take .nil pass0 (pa_cons (pv 0) (pa_cons pe_int pa_nil))) pe_int (by first | exact nomark _ | rfl))))) (pss_one (ps_ret (pe_op (x_add (K := K) rfl) (pv 3) (pe_lst (pa_cons (pe_tup (pa_cons pe_str (pa_cons pe_non (pa_cons (pe_tup (pa_cons (pe_ix (x_ix (K := K) rfl) (pv 4) pe_int (fun _ _ => rfl)) (pa_cons (pe_callG g_take cm (hr.mono (by omega)) (by rfl) m_take k_take b_take .nil pass0 (pa_cons (pv 0) (pa_cons (pe_callB (x_len (K := K) rfl) (by rfl) B.len_ bt_len (pa_cons (pv 3) pa_nil)) pa_nil))) pa_nil))) pa_nil)))) pa_nil))))) pss_nil)
      (pss_one (ps_ret (pe_op (x_add (K := K) rfl) (pv 3) (pe_lst (pa_cons (pe_tup (pa_cons pe_str (pa_cons (pe_ix (x_ix (K := K) rfl) (pe_tup (pa_cons pe_str (pa_cons pe_str (pa_cons pe_str pa_nil)))) (pe_callG g_take cm (hr.mono (by omega)) (by rfl) m_take k_take b_take .nil pass0 (pa_cons (pv 0) (pa_cons pe_int pa_nil))) (fun _ _ => rfl)) (pa_cons (pe_tup (pa_cons (pe_ix (x_ix (K := K) rfl) (pv 4) pe_int (fun _ _ => rfl)) pa_nil)) pa_nil)))) pa_nil)))))))))))
    h (fun us M Qu hd => ?_)
  obtain ⟨g, h, many, shared, rfl, rfl, hb, hm1, hm2, k⟩ := hd
  skip
  have hsl : 1000000 ≤ sizeLine := by decide
  walk_at "go"
  refine ⟨(fun ρ M => ∃ (web : List Nd) (loose : List Nat) (g h : Int) (x_k x_way x_kid x_first x_kids x_op : Option U), (bagOk g h) ∧ (PartOk web) ∧ (Loose web loose) ∧ (loose ≠ []) ∧ (web.length + loose.length ≤ 2 * many) ∧ ρ = [some (.p 0), some (.d (.int (many))), some (.d (.bool (shared))), some (.p 1), some (.p 2), x_k, x_way, x_kid, x_first, x_kids, x_op] ∧ M = [bagO g h, webO web, looseO loose]), ?_, ?_⟩
  · walk_at "go"
    refine ⟨by omega, ?_⟩
    refine wLoop_recO (fun us ρ M => ∃ (i : Int) (n : Nat) (web : List Nd) (loose : List Nat) (g h : Int) (x_k x_way x_kid x_first x_kids x_op : Option U), (us = intsU i n) ∧ (web.length + n = many) ∧ (bagOk g h) ∧ (PartOk web) ∧ (Loose web loose) ∧ (n = many ∨ loose ≠ []) ∧ (loose.length ≤ web.length) ∧ ρ = [some (.p 0), some (.d (.int (many))), some (.d (.bool (shared))), some (.p 1), some (.p 2), x_k, x_way, x_kid, x_first, x_kids, x_op] ∧ M = [bagO g h, webO web, looseO loose]) ?_ ?_ _ _ _ ⟨0, many, [], [], g, h, _, _, _, _, _, _, by rw [Int.toNat_natCast], by simp, hb, fun i n hn => by simp at hn, ⟨List.nodup_nil, by simp, by simp⟩, .inl rfl, Nat.le_refl _, rfl, rfl⟩
    · rintro ρ M ⟨i, n, web, loose, g, h, x_k, x_way, x_kid, x_first, x_kids, x_op, hu, hn, hb, hw, hl, hne, hlen, rfl, rfl⟩
      cases n with
      | succ n => rw [intsU_succ] at hu; cases hu
      | zero =>
        exact ⟨trivial, ⟨web, loose, g, h, _, _, _, _, _, _, hb, hw, hl, hne.elim (fun e => absurd e (by omega)) id, by omega, rfl, rfl⟩⟩
    · rintro Nn Rr Bb u us ih ρ M ⟨i, n, web, loose, g, h, x_k, x_way, x_kid, x_first, x_kids, x_op, hu, hn, hb, hw, hl, hne, hlen, rfl, rfl⟩
      cases n with
      | zero => cases hu
      | succ n =>
        rw [intsU_succ] at hu
        cases hu
        refine ⟨trivial, ?_⟩
        walk_at "go"
        refine ⟨_, _, 4, rfl, rfl, hb, by first | decide | omega | (simp only [List.length_map, len_kids]; omega) | (simp <;> omega), by first | decide | omega | (simp only [List.length_map, len_kids]; omega) | (simp <;> omega), fun way g h way_0 way_1 hb => ?_⟩
        walk_at "go"
        refine ⟨(fun ρ M => ∃ (n' : Nd) (loose2 : List Nat) (g h : Int) (wc : Ob) (x_k x_way x_kid x_first x_kids x_op : Option U), (bagOk g h) ∧ (GoodNd web.length n') ∧ (KidSt false web loose loose2 n'.kids) ∧ (wc = webO (web ++ [n'])) ∧ ρ = [some (.p 0), some (.d (.int (many))), some (.d (.bool (shared))), some (.p 1), some (.p 2), x_k, x_way, x_kid, x_first, x_kids, x_op] ∧ M = [bagO g h, wc, looseO loose2]), ?_, ?_⟩
        · skip
          -- {
          have hwl : web.length + 1 ≤ many := by omega
          have ok3 : ∀ (g h : Int) (w : List PyData) (l : List Nat), ∀ o ∈ [bagO g h, .lst w, looseO l], okOb 3 o := fun g h w l o ho => by
            simp only [List.mem_cons, List.not_mem_nil, or_false] at ho
            rcases ho with rfl | rfl | rfl <;> exact trivial
          walk_at "go"
          refine ⟨_, _, _, _, rfl, rfl, rfl, .inr ⟨kids_shaped _, by decide +kernel⟩, ?_⟩
          rw [eq_nil_b]
          skip
          by_cases he : loose = []
          · rw [decide_eq_true he]
            (walk_at "go"; refine ⟨.inl ⟨_, rfl⟩, ?_⟩; walk_at "go"; refine ⟨hb, fun n' g h hn' hb => ?_⟩; walk_at "go"; refine ⟨by rw [List.length_map]; omega, ?_⟩; refine trim3 rfl (ok3 _ _ _ _) ?_; exact ⟨n', loose, g, h, _, _, _, _, _, _, _, hb, leaf_good hn', by rw [hn'.2]; exact kid0 hl, web_snoc _ _, rfl, rfl⟩)
          rw [decide_eq_false he]
          have hpos : 1 ≤ loose.length := List.length_pos_iff.mpr he
          walk_at "go"
          rw [eqv_i]
          refine witeD (fun h0 => ?_) (fun h0 => ?_)
          · (walk_at "go"; refine ⟨.inl ⟨_, rfl⟩, ?_⟩; walk_at "go"; refine ⟨hb, fun n' g h hn' hb => ?_⟩; walk_at "go"; refine ⟨by rw [List.length_map]; omega, ?_⟩; refine trim3 rfl (ok3 _ _ _ _) ?_; exact ⟨n', loose, g, h, _, _, _, _, _, _, _, hb, leaf_good hn', by rw [hn'.2]; exact kid0 hl, web_snoc _ _, rfl, rfl⟩)
          walk_at "go"
          rw [eqv_i]
          refine witeD (fun h1 => ?_) (fun h1 => ?_)
          · walk_at "go"
            refine ⟨.inl ⟨_, rfl⟩, ?_⟩
            walk_at "go"
            refine ⟨_, _, _, rfl, rfl, hb, by first | decide | omega | (simp only [List.length_map, len_kids]; omega) | (simp <;> omega), by first | decide | omega | (simp only [List.length_map, len_kids]; omega) | (simp <;> omega), fun r g h r_0 r_1 hb => ?_⟩
            rw [len_kids] at r_1
            obtain ⟨p1, a, hp1, hp2, ha, hp3⟩ := pop_at hl.nd r r_0 r_1
            refine ⟨_, _, _, _, _, rfl, rfl, rfl, ⟨by omega, by omega⟩, hp1, hp2, ?_⟩
            rw [hp3]
            walk_at "go"
            refine ⟨.inl ⟨_, rfl⟩, ?_⟩
            walk_at "go"
            refine ⟨_, _, 3, rfl, rfl, hb, by first | decide | omega | (simp only [List.length_map, len_kids]; omega) | (simp <;> omega), by first | decide | omega | (simp only [List.length_map, len_kids]; omega) | (simp <;> omega), fun t g h t_0 t_1 hb => ?_⟩
            obtain ⟨op, hop, hop2⟩ := op1_at t t_0 t_1
            refine ⟨_, _, _, rfl, rfl, ix_t hop, ?_⟩
            walk_at "go"
            refine ⟨by rw [List.length_map]; omega, ?_⟩
            refine trim3 rfl (ok3 _ _ _ _) ?_
            exact ⟨⟨op, .none, [a]⟩, loose.erase a, g, h, _, _, _, _, _, _, _, hb, .inr (.inr (.inl ⟨hop2, rfl, a, rfl, hl.lt a ha⟩)), kid_drop (kid0 hl) (hl.lt a ha) ha, web_snoc web ⟨op, .none, [a]⟩, rfl, rfl⟩
          · walk_at "go"
            refine ⟨.inl ⟨_, rfl⟩, ?_⟩
            walk_at "go"
            refine ⟨_, _, _, rfl, rfl, hb, by first | decide | omega | (simp only [List.length_map, len_kids]; omega) | (simp <;> omega), by first | decide | omega | (simp only [List.length_map, len_kids]; omega) | (simp <;> omega), fun r g h r_0 r_1 hb => ?_⟩
            rw [len_kids] at r_1
            obtain ⟨p1, a, hp1, hp2, ha, hp3⟩ := pop_at hl.nd r r_0 r_1
            refine ⟨_, _, _, _, _, rfl, rfl, rfl, ⟨by omega, by omega⟩, hp1, hp2, ?_⟩
            rw [hp3]
            have hks1 := kid_drop (kid0 hl) (hl.lt a ha) ha
            walk_at "go"
            refine ⟨(fun ρ M => ∃ (kids loose3 : List Nat) (g h : Int) (x_k x_way x_kid x_first x_op : Option U), (bagOk g h) ∧ ((kids = [a] ∧ loose3 = loose.erase a) ∨ ∃ b, kids = [a, b] ∧ b < web.length ∧ (loose3 = loose.erase a ∨ (b ∈ loose.erase a ∧ loose3 = (loose.erase a).erase b))) ∧ ρ = [some (.p 0), some (.d (.int (many))), some (.d (.bool (shared))), some (.p 1), some (.p 2), x_k, x_way, x_kid, x_first, some (.p 3), x_op] ∧ M = [bagO g h, webO web, looseO loose3, .lst (encKids kids)]), ?_, ?_⟩
            · skip
              have hle1 : (loose.erase a).length ≤ loose.length := List.length_erase_le
              cases shared with
              | true =>
                walk_at "go"
                refine ⟨_, _, 2, rfl, rfl, hb, by first | decide | omega | (simp only [List.length_map, len_kids]; omega) | (simp <;> omega), by first | decide | omega | (simp only [List.length_map, len_kids]; omega) | (simp <;> omega), fun s g h s_0 s_1 hb => ?_⟩
                walk_at "go"
                rw [eqv_i]
                refine witeD (fun _ => ?_) (fun _ => ?_)
                · walk_at "go"
                  refine ⟨.inl ⟨_, rfl⟩, ?_⟩
                  walk_at "go"
                  have hwp : 1 ≤ web.length := by omega
                  refine ⟨_, _, _, rfl, rfl, hb, by first | decide | omega | (simp only [List.length_map, len_kids]; omega) | (simp <;> omega), by first | decide | omega | (simp only [List.length_map, len_kids]; omega) | (simp <;> omega), fun z g h z_0 z_1 hb => ?_⟩
                  rw [List.length_map] at z_1
                  obtain ⟨b, rfl⟩ := Int.eq_ofNat_of_zero_le z_0
                  walk_at "go"
                  exact ⟨[a, b], loose.erase a, g, h, _, _, _, _, _, hb, .inr ⟨b, rfl, by omega, .inl rfl⟩, rfl, rfl⟩
                · (walk_at "go"; refine ⟨_, _, _, _, rfl, rfl, rfl, .inr ⟨kids_shaped _, by decide +kernel⟩, ?_⟩; rw [eq_nil_b]; by_cases he2 : loose.erase a = []; (· rw [decide_eq_true he2]; walk_at "go"; exact ⟨[a], loose.erase a, g, h, _, _, _, _, _, hb, .inl ⟨rfl, rfl⟩, rfl, rfl⟩); (· rw [decide_eq_false he2]; walk_at "go"; refine ⟨.inl ⟨_, rfl⟩, ?_⟩; walk_at "go"; refine ⟨.inl ⟨_, rfl⟩, ?_⟩; walk_at "go"; have hpe := List.length_pos_iff.mpr he2; refine ⟨_, _, _, rfl, rfl, hb, by first | decide | omega | (simp only [List.length_map, len_kids]; omega) | (simp <;> omega), by first | decide | omega | (simp only [List.length_map, len_kids]; omega) | (simp <;> omega), fun z g h z_0 z_1 hb => ?_⟩; rw [len_kids] at z_1; obtain ⟨p2, b, hq1, hq2, hbm, hq3⟩ := pop_at (hl.nd.erase a) z z_0 z_1; refine ⟨_, _, _, _, _, rfl, rfl, rfl, ⟨by omega, by omega⟩, hq1, hq2, ?_⟩; rw [hq3]; walk_at "go"; exact ⟨[a, b], (loose.erase a).erase b, g, h, _, _, _, _, _, hb, .inr ⟨b, rfl, hl.lt b (List.mem_of_mem_erase hbm), .inr ⟨hbm, rfl⟩⟩, rfl, rfl⟩))
              | false =>
                (walk_at "go"; refine ⟨_, _, _, _, rfl, rfl, rfl, .inr ⟨kids_shaped _, by decide +kernel⟩, ?_⟩; rw [eq_nil_b]; by_cases he2 : loose.erase a = []; (· rw [decide_eq_true he2]; walk_at "go"; exact ⟨[a], loose.erase a, g, h, _, _, _, _, _, hb, .inl ⟨rfl, rfl⟩, rfl, rfl⟩); (· rw [decide_eq_false he2]; walk_at "go"; refine ⟨.inl ⟨_, rfl⟩, ?_⟩; walk_at "go"; refine ⟨.inl ⟨_, rfl⟩, ?_⟩; walk_at "go"; have hpe := List.length_pos_iff.mpr he2; refine ⟨_, _, _, rfl, rfl, hb, by first | decide | omega | (simp only [List.length_map, len_kids]; omega) | (simp <;> omega), by first | decide | omega | (simp only [List.length_map, len_kids]; omega) | (simp <;> omega), fun z g h z_0 z_1 hb => ?_⟩; rw [len_kids] at z_1; obtain ⟨p2, b, hq1, hq2, hbm, hq3⟩ := pop_at (hl.nd.erase a) z z_0 z_1; refine ⟨_, _, _, _, _, rfl, rfl, rfl, ⟨by omega, by omega⟩, hq1, hq2, ?_⟩; rw [hq3]; walk_at "go"; exact ⟨[a, b], (loose.erase a).erase b, g, h, _, _, _, _, _, hb, .inr ⟨b, rfl, hl.lt b (List.mem_of_mem_erase hbm), .inr ⟨hbm, rfl⟩⟩, rfl, rfl⟩))
            rintro _ _ ⟨kids, loose3, g, h, x_k, x_way, x_kid, x_first, x_op, hb, hcs, rfl, rfl⟩
            refine ⟨(fun ρ M => ∃ (kids2 loose4 : List Nat) (x_k x_way x_kid x_first x_op : Option U), (KidSt false web loose loose4 kids2) ∧ (kids2.length = 1 ∨ kids2.length = 2) ∧ ρ = [some (.p 0), some (.d (.int (many))), some (.d (.bool (shared))), some (.p 1), some (.p 2), x_k, x_way, x_kid, x_first, some (.p 3), x_op] ∧ M = [bagO g h, webO web, looseO loose4, .lst (encKids kids2)]), ?_, ?_⟩
            · rcases hcs with ⟨rfl, rfl⟩ | ⟨b, rfl, hbl, hc3⟩
              · walk_at "go"
                rw [show cutD (encKids [a]) (some 1) none = [] from cut1 _ _]
                refine ⟨_, _, _, _, rfl, rfl, rfl, .inr ⟨by decide +kernel, by decide +kernel⟩, ?_⟩
                walk_at "go"
                exact ⟨[a], loose.erase a, _, _, _, _, _, hks1, .inl rfl, rfl, rfl⟩
              · walk_at "go"
                rw [show cutD (encKids [a, b]) (some 1) none = encKids [b] from cut1 _ _]
                refine ⟨_, _, _, _, rfl, rfl, rfl, .inr ⟨kids_shaped _, by decide +kernel⟩, ?_⟩
                walk_at "go"
                refine ⟨_, _, _, _, rfl, rfl, rfl, ⟨rfl, kids_shaped loose3⟩, ?_⟩
                rw [kids_in]
                by_cases hin : b ∈ loose3
                · rw [decide_eq_true hin]
                  walk_at "go"
                  refine ⟨.inl ⟨_, rfl⟩, ?_⟩
                  walk_at "go"
                  refine ⟨2, loose3.map (fun (k : Nat) => (k : Int)), (b : Int), rfl, rfl, by rw [← kids_ints]; rfl, List.mem_map.mpr ⟨b, hin, rfl⟩, ?_⟩
                  rw [kids_erase]
                  rcases hc3 with rfl | ⟨hbm, rfl⟩
                  · exact ⟨[a, b], (loose.erase a).erase b, _, _, _, _, _, kid_drop hks1 hbl hin, .inr rfl, rfl, rfl⟩
                  · exact absurd hin (by rw [(hl.nd.erase a).mem_erase_iff]; exact fun z => z.1 rfl)
                · rw [decide_eq_false hin]
                  walk_at "go"
                  rcases hc3 with rfl | ⟨hbm, rfl⟩
                  · exact ⟨[a, b], loose.erase a, _, _, _, _, _, kid_keep hks1 hbl nofun hin, .inr rfl, rfl, rfl⟩
                  · exact ⟨[a, b], (loose.erase a).erase b, _, _, _, _, _, kid_drop hks1 hbl hbm, .inr rfl, rfl, rfl⟩
            rintro _ _ ⟨kids2, loose4, x_k, x_way, x_kid, x_first, x_op, hks, hk2, rfl, rfl⟩
            walk_at "go"
            rw [len_kids, eqv_i]
            rcases hk2 with hk2 | hk2
            · rw [decide_eq_false (by omega)]
              obtain ⟨x, rfl⟩ := List.length_eq_one_iff.mp hk2
              walk_at "go"
              refine ⟨.inl ⟨_, rfl⟩, ?_⟩
              walk_at "go"
              refine ⟨by rw [List.length_map]; omega, ?_⟩
              refine trim3 rfl (ok3 _ _ _ _) ?_
              exact ⟨⟨"load", .none, [x]⟩, loose4, g, h, _, _, _, _, _, _, _, hb, .inr (.inr (.inl ⟨(by show Str.ofString "load" ∈ ops1; decide), rfl, x, rfl, hks.lt x (by simp)⟩)), hks, web_snoc web ⟨"load", .none, [x]⟩, rfl, rfl⟩
            · rw [decide_eq_true (by omega)]
              obtain ⟨x, y, rfl⟩ := len_two hk2
              walk_at "go"
              refine ⟨_, _, 7, rfl, rfl, hb, by first | decide | omega | (simp only [List.length_map, len_kids]; omega) | (simp <;> omega), by first | decide | omega | (simp only [List.length_map, len_kids]; omega) | (simp <;> omega), fun t g h t_0 t_1 hb => ?_⟩
              obtain ⟨op, hop, hop2⟩ := op2_at t t_0 t_1
              refine ⟨_, _, _, rfl, rfl, ix_t hop, ?_⟩
              walk_at "go"
              refine ⟨.inl ⟨_, rfl⟩, ?_⟩
              walk_at "go"
              refine ⟨by rw [List.length_map]; omega, ?_⟩
              refine trim3 rfl (ok3 _ _ _ _) ?_
              exact ⟨⟨op, .none, [x, y]⟩, loose4, g, h, _, _, _, _, _, _, _, hb, .inr (.inr (.inr ⟨hop2, rfl, x, y, rfl, hks.lt x (by simp), hks.lt y (by simp)⟩)), hks, web_snoc web ⟨op, .none, [x, y]⟩, rfl, rfl⟩
          -- }
        rintro _ _ ⟨n', loose2, g, h, wc, x_k, x_way, x_kid, x_first, x_kids, x_op, hb, hgn, hks, hwc, rfl, rfl⟩
        subst hwc
        walk_at "go"
        refine ⟨.inl ⟨_, rfl⟩, ?_⟩
        walk_at "go"
        refine ⟨by rw [len_kids]; have := hks.le; omega, ?_⟩
        obtain ⟨op', mk', kd'⟩ := n'
        have hlw : (PyData.int (((web ++ [(⟨op', mk', kd'⟩ : Nd)]).map Nd.enc).length - 1) : PyData) = .int ((web.length : Nat) : Int) := by
          rw [List.length_map, List.length_append, List.length_singleton]
          congr 1
          omega
        show Nn _ [bagO g h, webO (web ++ [⟨op', mk', kd'⟩]), Ob.lst (encKids loose2 ++ [.int ((((web ++ [(⟨op', mk', kd'⟩ : Nd)]).map Nd.enc).length : Int) - 1)])]
        rw [hlw, kids_snoc]
        have hle2 := hks.le
        exact ih _ _ ⟨i + 1, n, web ++ [⟨op', mk', kd'⟩], loose2 ++ [web.length], g, h, _, _, _, _, _, _, rfl, by simp; omega, hb, part_snoc hw hgn, loose_snoc hw hl hks, .inr (by simp), by simp; omega, rfl, rfl⟩
  · rintro _ _ ⟨web, loose, g, h, x_k, x_way, x_kid, x_first, x_kids, x_op, hb, hw, hl, hne, hlen, rfl, rfl⟩
    refine ⟨(fun ρ M => ∃ (web : List Nd) (loose : List Nat) (g h : Int) (x_k x_way x_kid x_first x_kids x_op : Option U), (bagOk g h) ∧ (PartOk web) ∧ (Loose web loose) ∧ (loose ≠ []) ∧ (loose.length ≤ 2) ∧ (web.length + loose.length ≤ 2 * many) ∧ ρ = [some (.p 0), some (.d (.int (many))), some (.d (.bool (shared))), some (.p 1), some (.p 2), x_k, x_way, x_kid, x_first, x_kids, x_op] ∧ M = [bagO g h, webO web, looseO loose]), ?_, ?_⟩
    · walk_at "go"
      refine ⟨fun m ρ M => loose.length ≤ loose.length ∧ ∃ (web : List Nd) (loose : List Nat) (g h : Int) (x5 x6 x7 x8 x9 x10 : Option U), m = loose.length ∧ bagOk g h ∧ PartOk web ∧ Loose web loose ∧ loose ≠ [] ∧ web.length + loose.length ≤ 2 * many ∧ ρ = [some (.p 0), some (.d (.int many)), some (.d (.bool shared)), some (.p 1), some (.p 2), x5, x6, x7, x8, x9, x10] ∧ M = [bagO g h, webO web, looseO loose], ⟨_, Nat.le_refl _, web, loose, g, h, _, _, _, _, _, _, rfl, hb, hw, hl, hne, hlen, rfl, rfl⟩, ?_⟩
      rintro m _ _ ⟨_, web, loose, g, h, x5, x6, x7, x8, x9, x10, rfl, hb, hw, hl, hne, hlen, rfl, rfl⟩
      walk_at "go"
      refine witeD (fun hgt => ?_) (fun hle => ?_)
      · have hgt2 : 2 < loose.length := by simp [encKids] at hgt; omega
        walk_at "go"
        refine ⟨.inl ⟨_, rfl⟩, ?_⟩
        walk_at "go"
        refine ⟨_, _, _, rfl, rfl, hb, by first | decide | omega | (simp only [List.length_map, len_kids]; omega) | (simp <;> omega), by first | decide | omega | (simp only [List.length_map, len_kids]; omega) | (simp <;> omega), fun r g h r_0 r_1 hb => ?_⟩
        rw [len_kids] at r_1
        obtain ⟨p1, a, hp1, hp2, ha, hp3⟩ := pop_at hl.nd r r_0 r_1
        refine ⟨_, _, _, _, _, rfl, rfl, rfl, ⟨by omega, by omega⟩, hp1, hp2, ?_⟩
        rw [hp3]
        have hl1 : (loose.erase a).length = loose.length - 1 := List.length_erase_of_mem ha
        walk_at "go"
        refine ⟨.inl ⟨_, rfl⟩, ?_⟩
        obtain ⟨p2, b, hq1, hq2, hbm, hq3⟩ := pop_at (hl.nd.erase a) 0 (by omega) (by omega)
        refine ⟨_, _, _, _, _, rfl, rfl, rfl, ⟨by decide, by decide⟩, hq1, hq2, ?_⟩
        rw [hq3]
        have hl2 : ((loose.erase a).erase b).length = loose.length - 2 := by rw [List.length_erase_of_mem hbm]; omega
        walk_at "go"
        refine ⟨.inl ⟨_, rfl⟩, ?_⟩
        walk_at "go"
        refine ⟨_, _, 2, rfl, rfl, hb, by first | decide | omega | (simp only [List.length_map, len_kids]; omega) | (simp <;> omega), by first | decide | omega | (simp only [List.length_map, len_kids]; omega) | (simp <;> omega), fun t g h t_0 t_1 hb => ?_⟩
        have hjo : ∃ op : Str, atI ([.str "add", .str "xor"] : List PyData) t = some (.str op) ∧ op ∈ ops2 := by
          have h : t = 0 ∨ t = 1 := by omega
          rcases h with rfl | rfl <;> exact ⟨_, rfl, by decide⟩
        obtain ⟨op, hop, hop2⟩ := hjo
        refine ⟨_, _, _, rfl, rfl, ix_t hop, ?_⟩
        walk_at "go"
        refine ⟨by rw [List.length_map]; omega, ?_⟩
        walk_at "go"
        refine ⟨.inl ⟨_, rfl⟩, ?_⟩
        walk_at "go"
        refine ⟨by rw [len_kids]; omega, ?_⟩
        have hks1 := kid_drop (kid0 hl) (hl.lt a ha) ha
        have hks2 := kid_drop hks1 (hl.lt b (List.mem_of_mem_erase hbm)) hbm
        have hgn : GoodNd web.length ⟨op, .none, [a, b]⟩ := .inr (.inr (.inr ⟨hop2, rfl, a, b, rfl, hl.lt a ha, hl.lt b (List.mem_of_mem_erase hbm)⟩))
        refine ⟨loose.length - 1, by omega, Nat.le_refl _, web ++ [⟨op, .none, [a, b]⟩], (loose.erase a).erase b ++ [web.length], _, _, _, _, _, _, _, _, by simp; omega, hb, part_snoc hw hgn, loose_snoc hw hl hks2, by simp, by simp; omega, rfl, ?_⟩
        show [bagO g h, Ob.lst (web.map Nd.enc ++ [(⟨op, .none, [a, b]⟩ : Nd).enc]), Ob.lst (encKids ((loose.erase a).erase b) ++ [.int ((((web.map Nd.enc ++ [(⟨op, .none, [a, b]⟩ : Nd).enc]).length : Nat) : Int) - 1)])] = _
        rw [List.length_append, List.length_map, List.length_singleton, show ((web.length + 1 : Nat) : Int) - 1 = (web.length : Int) by omega, kids_snoc, web_snoc]
      · exact ⟨web, loose, g, h, _, _, _, _, _, _, hb, hw, hl, hne, by simp [encKids] at hle; omega, hlen, rfl, rfl⟩
    · rintro _ _ ⟨web, loose, g, h, x_k, x_way, x_kid, x_first, x_kids, x_op, hb, hw, hl, hne, h2, hlen, rfl, rfl⟩
      walk_at "go"
      rw [len_kids, eqv_i]
      refine witeD (fun h2e => ?_) (fun h2n => ?_)
      · obtain ⟨a, b, rfl⟩ := len_two (Int.ofNat_inj.mp h2e)
        have ha := hl.lt a (by simp)
        have hb2 := hl.lt b (by simp)
        have hlen' : web.length + 2 ≤ 2 * many := by simpa using hlen
        walk_at "go"
        refine ⟨_, _, 2, rfl, rfl, hb, by first | decide | omega | (simp only [List.length_map, len_kids]; omega) | (simp <;> omega), by first | decide | omega | (simp only [List.length_map, len_kids]; omega) | (simp <;> omega), fun s g h s_0 s_1 hb => ?_⟩
        have hs : s = 0 ∨ s = 1 := by omega
        rcases hs with rfl | rfl
        · walk_at "go"
          refine ⟨_, _, _, _, rfl, rfl, rfl, .inl ⟨by decide, by decide⟩, ?_⟩
          walk_at "go"
          refine ⟨by decide, ?_⟩
          rw [if_pos (by decide)]
          walk_at "go"
          refine ⟨_, _, _, _, rfl, rfl, rfl, by simp; omega, ?_⟩
          exact fin_be (enc_snoc web ⟨"put", .none, [a, b]⟩) (k web _ _ _ (web_put hw hl once_no rfl ha hb2 (fun x hx => hx) nofun) (by omega) (by omega) hb)
        · walk_at "go"
          refine ⟨_, _, _, _, rfl, rfl, rfl, .inl ⟨by decide, by decide⟩, ?_⟩
          walk_at "go"
          refine ⟨by decide, ?_⟩
          rw [if_neg (by decide)]
          walk_at "go"
          refine ⟨_, _, _, _, rfl, rfl, rfl, by simp; omega, ?_⟩
          exact fin_be (enc_snoc web ⟨"put", .none, [b, a]⟩) (k web _ _ _ (web_put hw hl once_no rfl hb2 ha (fun x hx => by simp at hx ⊢; exact hx.symm) nofun) (by omega) (by omega) hb)
      · obtain ⟨a, rfl⟩ : ∃ a, loose = [a] := List.length_eq_one_iff.mp (by have := List.length_pos_iff.mpr hne; omega)
        have ha := hl.lt a (by simp)
        have hlen' : web.length + 1 ≤ 2 * many := by simpa using hlen
        have nmq : ∀ t : Int, 0 ≤ t → t < 3 → ∃ s : Str, atI ([.str "a", .str "b", .str "q"] : List PyData) t = some (.str s) ∧ nameOk s := fun t t0 t1 => by
          have nd : ∀ s : Str, (decide (1 ≤ s.cps.toList.length ∧ s.cps.toList.length ≤ 8) && s.cps.toList.all fun c => decide (97 ≤ c ∧ c ≤ 122)) = true → nameOk s := fun s h => by
            rw [Bool.and_eq_true, List.all_eq_true] at h
            have a := of_decide_eq_true h.1
            exact ⟨a.1, a.2, fun c hc => of_decide_eq_true (h.2 c hc)⟩
          have h : t = 0 ∨ t = 1 ∨ t = 2 := by omega
          rcases h with rfl | rfl | rfl
          · exact ⟨"a", rfl, nd _ (by decide +kernel)⟩
          · exact ⟨"b", rfl, nd _ (by decide +kernel)⟩
          · exact ⟨"q", rfl, nd _ (by decide +kernel)⟩
        skip
        cases shared with
        | false =>
          (walk_at "go"; refine ⟨_, _, 3, rfl, rfl, hb, by first | decide | omega | (simp only [List.length_map, len_kids]; omega) | (simp <;> omega), by first | decide | omega | (simp only [List.length_map, len_kids]; omega) | (simp <;> omega), fun t g h t_0 t_1 hb => ?_⟩; obtain ⟨s, hs, hs2⟩ := nmq t t_0 t_1; refine ⟨_, _, _, rfl, rfl, ix_t hs, ?_⟩; walk_at "go"; refine ⟨_, _, _, _, rfl, rfl, rfl, by simp; omega, ?_⟩; exact fin_be (enc_snoc web ⟨"set", .str s, [a]⟩) (k web _ _ _ (web_set hw hl once_no hs2) (by omega) hlen' hb))
        | true =>
          walk_at "go"
          refine ⟨_, _, 3, rfl, rfl, hb, by first | decide | omega | (simp only [List.length_map, len_kids]; omega) | (simp <;> omega), by first | decide | omega | (simp only [List.length_map, len_kids]; omega) | (simp <;> omega), fun r g h r_0 r_1 hb => ?_⟩
          walk_at "go"
          rw [eqv_i]
          refine witeD (fun _ => ?_) (fun _ => ?_)
          · walk_at "go"
            refine ⟨_, _, _, rfl, rfl, hb, by first | decide | omega | (simp only [List.length_map, len_kids]; omega) | (simp <;> omega), by first | decide | omega | (simp only [List.length_map, len_kids]; omega) | (simp <;> omega), fun z g h z_0 z_1 hb => ?_⟩
            rw [List.length_map] at z_1
            obtain ⟨b, rfl⟩ := Int.eq_ofNat_of_zero_le z_0
            walk_at "go"
            refine ⟨_, _, _, _, rfl, rfl, rfl, by simp; omega, ?_⟩
            exact fin_be (enc_snoc web ⟨"put", .none, [a, b]⟩) (k web _ _ _ (web_put hw hl once_no rfl ha (by omega) (fun x hx => by simp at hx; simp [hx]) nofun) (by omega) hlen' hb)
          · (walk_at "go"; refine ⟨_, _, 3, rfl, rfl, hb, by first | decide | omega | (simp only [List.length_map, len_kids]; omega) | (simp <;> omega), by first | decide | omega | (simp only [List.length_map, len_kids]; omega) | (simp <;> omega), fun t g h t_0 t_1 hb => ?_⟩; obtain ⟨s, hs, hs2⟩ := nmq t t_0 t_1; refine ⟨_, _, _, rfl, rfl, ix_t hs, ?_⟩; walk_at "go"; refine ⟨_, _, _, _, rfl, rfl, rfl, by simp; omega, ?_⟩; exact fin_be (enc_snoc web ⟨"set", .str s, [a]⟩) (k web _ _ _ (web_set hw hl once_no hs2) (by omega) hlen' hb))

/-! ### is_whole -/
abbrev s_is_whole : Stmt := top 11
theorem sc_is_whole : FnScope ["thing", "low", "high"] ["thing", "low", "high"] (defScope s_is_whole) := ⟨rfl, rfl, rfl, by decide +kernel, rfl, by decide +kernel, by decide +kernel⟩
theorem ok_is_whole {f : Addr} {fd : FuncData} (F : FunF K "is_whole" "is_whole" s_is_whole [V.int 0, V.int 65535] f fd) (B : Bln mg) (G : Gln w K mg)
    : GnOk P w K mg base CX0 1 f fd ["thing", "low", "high"] (liftSp sp_is_whole) := by
  obtain ⟨gt_MOST_WORD, gm_MOST_WORD⟩ := G.MOST_WORD
  refine okFG F sc_is_whole (lift_len (by rintro us M Q h; obtain ⟨d, lo, hi, rfl, _⟩ := h; rfl)) (fun cdv A outer s H vs Q E cm hr h => ?_)
  refine def_ok ((ls_ret (le_and (le_isiC (K := K) .int (le_var (i := 0))) (le_and (le_not (le_isiC (K := K) .bool (le_var (i := 0)))) (le_chain lr_le lr_le (le_var (i := 1)) (le_var (i := 0)) (le_var (i := 2)))))))
    ((pss_one (ps_ret (pe_and (pe_callB (x_isi (K := K) rfl) (by rfl) B.isinstance_ bt_isinstance (pa_cons (pv 0) (pa_cons (pe_bltn (by rfl) B.int_ bt_int (v := .ty "int") rfl) pa_nil))) (pe_and (pe_not (pe_callB (x_isi (K := K) rfl) (by rfl) B.isinstance_ bt_isinstance (pa_cons (pv 0) (pa_cons (pe_bltn (by rfl) B.bool_ bt_bool (v := .ty "bool") rfl) pa_nil)))) (pe_one (pe_chain op_le op_le (pv 1) (pv 0) (pv 2))))))))
    h (fun us M Qu hd => ?_)
  obtain ⟨d, lo, hi, rfl, rfl, hn, k⟩ := hd
  walk_at "go"
  refine ⟨hn, ?_⟩
  cases d <;> walk_at "go"
  case int i =>
    refine witeD (fun h1 => ?_) (fun h1 => ?_)
    · walk_at "go"
      exact fin_n (by rw [whB, decide_eq_true h1]; rfl) k
    · walk_at "go"
      exact fin_n (by rw [whB, decide_eq_false h1]; rfl) k
  all_goals exact fin_n rfl k
/-! ### is_word -/
abbrev s_is_word : Stmt := top 12
theorem sc_is_word : FnScope ["thing"] ["thing"] (defScope s_is_word) := ⟨rfl, rfl, rfl, by decide +kernel, rfl, by decide +kernel, by decide +kernel⟩
theorem ok_is_word {f : Addr} {fd : FuncData} (F : Fun K "is_word" "is_word" s_is_word f fd) (B : Bln mg) (G : Gln w K mg)
    {f_is_whole : Addr} {fd_is_whole : FuncData} (g_is_whole : GnOk P w K mg base CX0 1 f_is_whole fd_is_whole ["thing", "low", "high"] (liftSp sp_is_whole)) (m_is_whole : mg "is_whole" = some (.ref f_is_whole)) (k_is_whole : PySem.W.keepIn K (.ref f_is_whole) = true) (b_is_whole : Binds K fd_is_whole ["thing", "low", "high"] []) {ds2_is_whole : List Value} (bd2_is_whole : Binds K fd_is_whole ["thing", "low", "high"] ds2_is_whole) (dv2_is_whole : Vals [V.int 0, V.int 65535] ds2_is_whole)
    : GnOk P w K mg base CX0 2 f fd ["thing"] (liftSp sp_is_word) := by
  refine okG F sc_is_word (lift_len (by rintro us M Q h; obtain ⟨d, rfl, _⟩ := h; rfl)) (fun cdv A outer s H vs Q E cm hr h => ?_)
  refine def_ok ((ls_ret (le_callP (dv := [.int 0, .int 65535]) (fun _ => (.cons (RU.D (.int _)) (.cons (RU.D (.int _)) .nil))) (la_cons (le_var (i := 0)) la_nil))))
    ((pss_one (ps_ret (pe_callG g_is_whole cm (hr.mono (by omega)) (by rfl) m_is_whole k_is_whole bd2_is_whole dv2_is_whole pass0 (pa_cons (pv 0) pa_nil)))))
    h (fun us M Qu hd => ?_)
  obtain ⟨d, rfl, rfl, hn, k⟩ := hd
  walk_at "go"
  refine ⟨d, 0, 65535, rfl, rfl, hn, ?_⟩
  walk_at "go"
  exact fin_n rfl k
/-! ### is_name -/
abbrev s_is_name : Stmt := top 13
theorem sc_is_name : FnScope ["thing", "sign"] ["thing"] (defScope s_is_name) := ⟨rfl, rfl, rfl, by decide +kernel, rfl, by decide +kernel, by decide +kernel⟩
theorem ok_is_name {f : Addr} {fd : FuncData} (F : Fun K "is_name" "is_name" s_is_name f fd) (B : Bln mg) (G : Gln w K mg)
    : GnOk P w K mg base CX0 1 f fd ["thing"] (liftSp sp_is_name) := by
  obtain ⟨gt_LETTERS, gm_LETTERS⟩ := G.LETTERS
  obtain ⟨gt_MOST_LETTERS, gm_MOST_LETTERS⟩ := G.MOST_LETTERS
  refine okG F sc_is_name (lift_len (by rintro us M Q h; obtain ⟨d, rfl, _⟩ := h; rfl)) (fun cdv A outer s H vs Q E cm hr h => ?_)
  refine def_ok ((ls_seq (ls_if (lt_or (lt_not (lt_B (le_isiC (K := K) .str (le_var (i := 0))))) (lt_not (lt_test (le_chain lr_le lr_le le_int (le_cb (lc_len (K := K)) (la_cons (le_var (i := 0)) la_nil)) le_int)))) (ls_ret le_bl) ls_next)
      (ls_ret (le_cb (lc_all (K := K)) (la_cons (le_lc (li_str (le_var (i := 0))) (lgv_name (i := 1) (by decide)) lt_yes (le_op (lr_in (K := K)) (le_var (i := 1)) le_str)) la_nil)))))
    ((pss_cons (ps_if (PW.pt (pw_or (pt_not (pt_val (pe_callB (x_isi (K := K) rfl) (by rfl) B.isinstance_ bt_isinstance (pa_cons (pv 0) (pa_cons (pe_bltn (by rfl) B.str_ bt_str (v := .ty "str") rfl) pa_nil))))) (pw_or1 (pt_not (pt_chain op_le op_le pe_int (pe_callB (x_len (K := K) rfl) (by rfl) B.len_ bt_len (pa_cons (pv 0) pa_nil)) (pe_glob (by rfl) gm_MOST_LETTERS ⟨_, rfl⟩)))))) (pss_one (ps_ret pe_bl)) pss_nil)
      (pss_one (ps_ret (pe_callB (x_all (K := K) rfl rfl) (by rfl) B.all_ bt_all (pa_cons (pe_lc (own := [("sign", 1)]) rfl sc_is_name.nd (pi_str (pv 0)) (blkOk_by (N := ["thing", "sign"]) (sc := defScope s_is_name) (by decide +kernel)) (fun _ _ _ _ _ => (pg_name (i := 1) sc_is_name.nd rfl (Or.inl rfl))) (fun _ _ _ _ _ => pts_nil) (fun _ _ _ _ _ => (pe_cmpR (x_in (K := K) rfl (hu65 hr)) (pv 1) (pe_glob (by rfl) gm_LETTERS ⟨_, rfl⟩) (by first | exact nomark _ | rfl)))) pa_nil))))))
    h (fun us M Qu hd => ?_)
  obtain ⟨d, rfl, rfl, hn, k⟩ := hd
  walk_at "go"
  refine ⟨hn.1, ?_⟩
  cases d with
  | str s =>
    walk_at "go"
    refine ⟨_, _, _, rfl, rfl, hn.2 s rfl, ?_⟩
    walk_at "go"
    refine witeD (fun h1 => ?_) (fun h1 => ?_)
    · walk_at "go"
      by_cases h2 : (s.length : Int) ≤ 8
      · simp only [decide_eq_true h2]
        walk_at "go"
        refine signs_go s (fun c => decide (c ∈ (Str.ofString "abcdefghijklmnopqrstuvwxyz").cps.toList)) ?_ ?_
        · intro c acc R hl hR
          walk_at "go"
          refine ⟨by rw [List.length_map, List.length_map]; have := hn.2 s rfl; omega, ?_⟩
          rw [List.map_append, List.map_append] at hR
          exact hR
        · refine ⟨_, dats_map _, ?_⟩
          walk_at "go"
          refine ⟨_, _, _, rfl, rfl, bools_map _, ?_⟩
          refine fin_n ?_ k
          rw [nmB]
          congr 1
          show (List.map _ s.cps.toList).all id = _
          rw [List.all_map]
          rw [Bool.eq_iff_iff, decide_eq_true_iff, signs_all]
          exact ⟨fun h => ⟨⟨h1, h2⟩, h⟩, fun h => h.2⟩
      · simp only [decide_eq_false h2]
        walk_at "go"
        exact fin_n (by rw [nmB, decide_eq_false fun h => h2 ((signs_all s).mp h).1.2]) k
    · walk_at "go"
      exact fin_n (by rw [nmB, decide_eq_false fun h => h1 ((signs_all s).mp h).1.1]) k
  | _ =>
    walk_at "go"
    exact fin_n rfl k
/-! ### is_mark -/
abbrev s_is_mark : Stmt := top 14
theorem sc_is_mark : FnScope ["op", "thing"] ["op", "thing"] (defScope s_is_mark) := ⟨rfl, rfl, rfl, by decide +kernel, rfl, by decide +kernel, by decide +kernel⟩
theorem ok_is_mark {f : Addr} {fd : FuncData} (F : Fun K "is_mark" "is_mark" s_is_mark f fd) (B : Bln mg) (G : Gln w K mg)
    {f_is_word : Addr} {fd_is_word : FuncData} (g_is_word : GnOk P w K mg base CX0 2 f_is_word fd_is_word ["thing"] (liftSp sp_is_word)) (m_is_word : mg "is_word" = some (.ref f_is_word)) (k_is_word : PySem.W.keepIn K (.ref f_is_word) = true) (b_is_word : Binds K fd_is_word ["thing"] [])
    {f_is_name : Addr} {fd_is_name : FuncData} (g_is_name : GnOk P w K mg base CX0 1 f_is_name fd_is_name ["thing"] (liftSp sp_is_name)) (m_is_name : mg "is_name" = some (.ref f_is_name)) (k_is_name : PySem.W.keepIn K (.ref f_is_name) = true) (b_is_name : Binds K fd_is_name ["thing"] [])
    : GnOk P w K mg base CX0 3 f fd ["op", "thing"] (liftSp sp_is_mark) := by
  obtain ⟨ga_MARKS, gm_MARKS, gw_MARKS⟩ := G.MARKS
  refine okG F sc_is_mark (lift_len (by rintro us M Q h; obtain ⟨op, d, rfl, _⟩ := h; rfl)) (fun cdv A outer s H vs Q E cm hr h => ?_)
  refine def_ok ((ls_seq (ls_if (lt_test (le_op (lr_notInKd gw_MARKS) (le_var (i := 0)) le_raw)) (ls_ret (le_op lr_isN (le_var (i := 1)) le_non)) ls_next)
      (ls_ret (le_if (lt_test (le_op (lr_eq (K := K)) (le_op (lr_getKs gw_MARKS) le_raw (le_var (i := 0))) le_str)) (le_callP (dv := []) (fun _ => .nil) (la_cons (le_var (i := 1)) la_nil)) (le_callP (dv := []) (fun _ => .nil) (la_cons (le_var (i := 1)) la_nil))))))
    ((pss_cons (ps_if (pt_cmpR (x_notInKd (K := K) rfl rfl gw_MARKS) (pv 0) (pe_glob (by rfl) gm_MARKS (v := .ref ga_MARKS) rfl) (by first | exact nomark _ | rfl)) (pss_one (ps_ret (pe_cmpR op_isN (pv 1) pe_non (by first | exact nomark _ | rfl)))) pss_nil)
      (pss_one (ps_ret (pe_ifExp (pt_cmpR (x_eq (K := K) rfl (hu64 hr)) (pe_ix (x_ixKd (K := K) rfl rfl) (pe_glob (by rfl) gm_MARKS (v := .ref ga_MARKS) rfl) (pv 0) (fun _ _ => rfl)) pe_str (by first | exact nomark _ | rfl)) (pe_callG g_is_word cm (hr.mono (by omega)) (by rfl) m_is_word k_is_word b_is_word .nil pass0 (pa_cons (pv 1) pa_nil)) (pe_callG g_is_name cm (hr.mono (by omega)) (by rfl) m_is_name k_is_name b_is_name .nil pass0 (pa_cons (pv 1) pa_nil)))))))
    h (fun us M Qu hd => ?_)
  obtain ⟨op, d, rfl, rfl, hn, k⟩ := hd
  walk_at "go"
  cases el : wr_MARKS.lookup op with
  | none =>
    walk_at "go"
    refine ⟨_, rfl, isNo_u d, ?_⟩
    walk_at "go"
    exact fin_n (by simp only [markB, el]) k
  | some t =>
    walk_at "go"
    refine ⟨_, _, rfl, el, ?_⟩
    walk_at "go"
    rw [eqv_s]
    refine witeD (fun h => ?_) (fun h => ?_)
    · walk_at "go"
      refine ⟨hn.1, ?_⟩
      walk_at "go"
      exact fin_n (by simp only [markB, el, decide_eq_true h]; rfl) k
    · walk_at "go"
      refine ⟨hn, ?_⟩
      walk_at "go"
      exact fin_n (by simp only [markB, el, decide_eq_false h]; rfl) k
/-! ### is_node -/
abbrev s_is_node : Stmt := top 15
theorem sc_is_node : FnScope ["thing", "at", "op", "rest", "kid"] ["thing", "at"] (defScope s_is_node) := ⟨rfl, rfl, rfl, by decide +kernel, rfl, by decide +kernel, by decide +kernel⟩
theorem ok_is_node {f : Addr} {fd : FuncData} (F : Fun K "is_node" "is_node" s_is_node f fd) (B : Bln mg) (G : Gln w K mg)
    {f_is_mark : Addr} {fd_is_mark : FuncData} (g_is_mark : GnOk P w K mg base CX0 3 f_is_mark fd_is_mark ["op", "thing"] (liftSp sp_is_mark)) (m_is_mark : mg "is_mark" = some (.ref f_is_mark)) (k_is_mark : PySem.W.keepIn K (.ref f_is_mark) = true) (b_is_mark : Binds K fd_is_mark ["op", "thing"] [])
    {f_is_whole : Addr} {fd_is_whole : FuncData} (g_is_whole : GnOk P w K mg base CX0 1 f_is_whole fd_is_whole ["thing", "low", "high"] (liftSp sp_is_whole)) (m_is_whole : mg "is_whole" = some (.ref f_is_whole)) (k_is_whole : PySem.W.keepIn K (.ref f_is_whole) = true) (b_is_whole : Binds K fd_is_whole ["thing", "low", "high"] []) {ds2_is_whole : List Value} (bd2_is_whole : Binds K fd_is_whole ["thing", "low", "high"] ds2_is_whole) (dv2_is_whole : Vals [V.int 0, V.int 65535] ds2_is_whole)
    : GnOk P w K mg base CX0 4 f fd ["thing", "at"] (liftSp sp_is_node) := by
  obtain ⟨ga_KIDS, gm_KIDS, gw_KIDS⟩ := G.KIDS
  refine okG F sc_is_node (lift_len (by rintro us M Q h; obtain ⟨d, a, rfl, _⟩ := h; rfl)) (fun cdv A outer s H vs Q E cm hr h => ?_)
  refine def_ok ((ls_seq (ls_if (lt_or (lt_not (lt_B (le_isiC (K := K) .tuple (le_var (i := 0))))) (lt_test (le_op (lr_ne (K := K)) (le_cb (lc_len (K := K)) (la_cons (le_var (i := 0)) la_nil)) le_int))) (ls_ret le_bl) ls_next)
      (ls_seq (ls_asg (le_var (i := 0)) (lg_star (K := K) (m := 2) (i := 1) (lgs_cons (lg_name (i := 2)) (lgs_cons (lg_name (i := 3)) lgs_nil))))
      (ls_seq (ls_if (lt_or (lt_not (lt_B (le_isiC (K := K) .str (le_var (i := 2))))) (lt_or (lt_test (le_op (lr_notInKd gw_KIDS) (le_var (i := 2)) le_raw)) (lt_not (lt_B (le_callP (dv := []) (fun _ => .nil) (la_cons (le_var (i := 2)) (la_cons (le_op (lr_ix (K := K)) (le_var (i := 3)) le_int) la_nil))))))) (ls_ret le_bl) ls_next)
      (ls_seq (ls_if (lt_or (lt_not (lt_B (le_isiC (K := K) .tuple (le_op (lr_ix (K := K)) (le_var (i := 3)) le_int)))) (lt_test (le_op (lr_ne (K := K)) (le_cb (lc_len (K := K)) (la_cons (le_op (lr_ix (K := K)) (le_var (i := 3)) le_int) la_nil)) (le_op (lr_getKd gw_KIDS) le_raw (le_var (i := 2)))))) (ls_ret le_bl) ls_next)
      (ls_ret (le_cb (lc_all (K := K)) (la_cons (le_lc (li_tup (K := K) (le_op (lr_ix (K := K)) (le_var (i := 3)) le_int)) (lgv_name (i := 4) (by decide)) lt_yes (le_callP (dv := []) (fun _ => .nil) (la_cons (le_var (i := 4)) (la_cons le_int (la_cons (le_op lr_sub (le_var (i := 1)) le_int) la_nil))))) la_nil))))))))
    ((pss_cons (ps_if (PW.pt (pw_or (pt_not (pt_val (pe_callB (x_isi (K := K) rfl) (by rfl) B.isinstance_ bt_isinstance (pa_cons (pv 0) (pa_cons (pe_bltn (by rfl) B.tuple_ bt_tuple (v := .ty "tuple") rfl) pa_nil))))) (pw_or1 (pt_cmpR (x_ne (K := K) rfl (hu64 hr)) (pe_callB (x_len (K := K) rfl) (by rfl) B.len_ bt_len (pa_cons (pv 0) pa_nil)) pe_int (by first | exact nomark _ | rfl))))) (pss_one (ps_ret pe_bl)) pss_nil)
      (pss_cons (ps_asg (pv 0) (pg_star rfl (pgs_cons (pg_name (i := 2) sc_is_node.nd rfl (Or.inl rfl)) (pgs_star (pg_name (i := 3) sc_is_node.nd rfl (Or.inl rfl)) pgs_nil)) (by decide)))
      (pss_cons (ps_if (PW.pt (pw_or (pt_not (pt_val (pe_callB (x_isi (K := K) rfl) (by rfl) B.isinstance_ bt_isinstance (pa_cons (pv 2) (pa_cons (pe_bltn (by rfl) B.str_ bt_str (v := .ty "str") rfl) pa_nil))))) (pw_or (pt_cmpR (x_notInKd (K := K) rfl rfl gw_KIDS) (pv 2) (pe_glob (by rfl) gm_KIDS (v := .ref ga_KIDS) rfl) (by first | exact nomark _ | rfl)) (pw_or1 (pt_not (pt_val (pe_callG g_is_mark cm (hr.mono (by omega)) (by rfl) m_is_mark k_is_mark b_is_mark .nil pass0 (pa_cons (pv 2) (pa_cons (pe_ix (x_ix (K := K) rfl) (pv 3) pe_int (fun _ _ => rfl)) pa_nil))))))))) (pss_one (ps_ret pe_bl)) pss_nil)
      (pss_cons (ps_if (PW.pt (pw_or (pt_not (pt_val (pe_callB (x_isi (K := K) rfl) (by rfl) B.isinstance_ bt_isinstance (pa_cons (pe_ix (x_ix (K := K) rfl) (pv 3) pe_int (fun _ _ => rfl)) (pa_cons (pe_bltn (by rfl) B.tuple_ bt_tuple (v := .ty "tuple") rfl) pa_nil))))) (pw_or1 (pt_cmpR (x_ne (K := K) rfl (hu64 hr)) (pe_callB (x_len (K := K) rfl) (by rfl) B.len_ bt_len (pa_cons (pe_ix (x_ix (K := K) rfl) (pv 3) pe_int (fun _ _ => rfl)) pa_nil)) (pe_ix (x_ixKd (K := K) rfl rfl) (pe_glob (by rfl) gm_KIDS (v := .ref ga_KIDS) rfl) (pv 2) (fun _ _ => rfl)) (by first | exact nomark _ | rfl))))) (pss_one (ps_ret pe_bl)) pss_nil)
      (pss_one (ps_ret (pe_callB (x_all (K := K) rfl rfl) (by rfl) B.all_ bt_all (pa_cons (pe_lc (own := [("kid", 4)]) rfl sc_is_node.nd (pi_tup (pe_ix (x_ix (K := K) rfl) (pv 3) pe_int (fun _ _ => rfl))) (blkOk_by (N := ["thing", "at", "op", "rest", "kid"]) (sc := defScope s_is_node) (by decide +kernel)) (fun _ _ _ _ _ => (pg_name (i := 4) sc_is_node.nd rfl (Or.inl rfl))) (fun _ _ _ _ _ => pts_nil) (fun _ _ _ _ _ => (pe_callG g_is_whole cm (hr.mono (by omega)) (by rfl) m_is_whole k_is_whole b_is_whole .nil pass0 (pa_cons (pv 4) (pa_cons pe_int (pa_cons (pe_op op_sub (pv 1) pe_int) pa_nil)))))) pa_nil)))))))))
    h (fun us M Qu hd => ?_)
  obtain ⟨d, a, rfl, rfl, ht, k⟩ := hd
  have hsl : 1000000 ≤ sizeLine := by decide
  walk_at "go"
  refine ⟨tame_nd ht, ?_⟩
  cases d with
  | tuple ds =>
    match ds, ht with
    | [], _ => (walk_at "go"; exact fin_n rfl k)
    | [x], _ => (walk_at "go"; exact fin_n (by cases x <;> rfl) k)
    | [x, _], _ => (walk_at "go"; exact fin_n (by cases x <;> rfl) k)
    | _ :: _ :: _ :: _ :: _, _ => (walk_at "go"; exact fin_n (by unfold ndB; split <;> simp_all) k)
    | [x, m, kk], ht =>
      obtain ⟨_, hp⟩ := tame_in ht
      have hx := hp x (by simp)
      have hm := hp m (by simp)
      have hk := hp kk (by simp)
      walk_at "go"
      refine ⟨by simp, ?_⟩
      walk_at "go"
      rw [starA]
      walk_at "go"
      refine ⟨tame_nd hx, ?_⟩
      cases x with
      | str op =>
        walk_at "go"
        cases el : wr_KIDS.lookup op with
        | none =>
          walk_at "go"
          exact fin_n (by cases kk <;> simp only [ndB, el]) k
        | some n =>
          walk_at "go"
          refine ⟨tame_ok1 hm, ?_⟩
          walk_at "go"
          cases em : markB op m with
          | false =>
            walk_at "go"
            exact fin_n (by cases kk <;> simp only [ndB, el, em] <;> rfl) k
          | true =>
            walk_at "go"
            refine ⟨tame_nd hk, ?_⟩
            cases kk with
            | tuple ks =>
              obtain ⟨hkl, hks⟩ := tame_in hk
              walk_at "go"
              refine ⟨_, _, rfl, el, ?_⟩
              walk_at "go"
              rw [eqv_i]
              by_cases hl : (ks.length : Int) = n
              · rw [decide_eq_true hl]
                walk_at "go"
                refine dat_go trivial ks (fun x => .bool (whB 0 (a - 1) x)) ?_ ?_
                · intro x acc R hx hlt hR
                  walk_at "go"
                  refine ⟨x, 0, a - 1, rfl, rfl, tame_nd (hks x hx), _, rfl, ?_⟩
                  refine ⟨by rw [List.length_map]; omega, ?_⟩
                  rw [List.map_append] at hR
                  exact hR
                · refine ⟨_, dats_map _, ?_⟩
                  walk_at "go"
                  refine ⟨_, _, _, rfl, rfl, bools_of ks (whB 0 (a - 1)), ?_⟩
                  exact fin_n (by simp only [ndB, el, em, decide_eq_true hl]; rw [List.all_map]; rfl) k
              · rw [decide_eq_false hl]
                walk_at "go"
                exact fin_n (by simp only [ndB, el, em, decide_eq_false hl]; rfl) k
            | _ =>
              walk_at "go"
              exact fin_n rfl k
      | _ =>
        walk_at "go"
        exact fin_n rfl k
  | _ =>
    walk_at "go"
    exact fin_n rfl k
/-! ### all_kids -/
abbrev s_all_kids : Stmt := top 16
theorem sc_all_kids : FnScope ["web", "op", "mark", "kids", "kid"] ["web"] (defScope s_all_kids) := ⟨rfl, rfl, rfl, by decide +kernel, rfl, by decide +kernel, by decide +kernel⟩
theorem ok_all_kids {f : Addr} {fd : FuncData} (F : Fun K "all_kids" "all_kids" s_all_kids f fd) (B : Bln mg) (G : Gln w K mg)
    : GnOk P w K mg base CX0 1 f fd ["web"] (liftSp sp_all_kids) := by
  refine okG F sc_all_kids (lift_len (by rintro us M Q h; obtain ⟨ns, rfl, _⟩ := h; rfl)) (fun cdv A outer s H vs Q E cm hr h => ?_)
  refine def_ok ((ls_ret (le_lc2 (li_list (K := K) (le_var (i := 0))) (lgv_tup (K := K) (n := 3) (lgvs_cons (lgv_name (i := 1) (by decide)) (lgvs_cons (lgv_name (i := 2) (by decide)) (lgvs_cons (lgv_name (i := 3) (by decide)) lgvs_nil)))) lt_yes (li_tup (K := K) (le_var (i := 3))) (lgv_name (i := 4) (by decide)) lt_yes (le_var (i := 4)))))
    ((pss_one (ps_ret (pe_lc2 (own := [("op", 1), ("mark", 2), ("kids", 3), ("kid", 4)]) (vs1 := [4]) rfl sc_all_kids.nd (pi_list (pv 0)) (blkOk_by (N := ["web", "op", "mark", "kids", "kid"]) (sc := defScope s_all_kids) (by decide +kernel)) (by decide) (fun _ _ _ _ _ => (pg_tup rfl (pgs_cons (pg_name (i := 1) sc_all_kids.nd rfl (Or.inl rfl)) (pgs_cons (pg_name (i := 2) sc_all_kids.nd rfl (Or.inl rfl)) (pgs_cons (pg_name (i := 3) sc_all_kids.nd rfl (Or.inl rfl)) pgs_nil))))) (fun _ _ _ _ _ => pts_nil) (fun _ _ _ _ _ => (pi_tup (pv 3))) (fun _ _ _ _ _ => (pg_name (i := 4) sc_all_kids.nd rfl (Or.inl rfl))) (fun _ _ _ _ _ => pts_nil) (fun _ _ _ _ _ => (pv 4))))))
    h (fun us M Qu hd => ?_)
  obtain ⟨ns, rfl, rfl, hl, hk, k⟩ := hd
  have hsl : 1000000 ≤ sizeLine := by decide
  have hkl := nxKids_len hk
  walk_at "go"
  refine dat_fold trivial (ns.map Nx.enc) (fun d => match d with | .tuple [_, _, .tuple ks] => ks | _ => []) [] ?_ ?_
  · intro x pre suf R hsp hR
    obtain ⟨n, hn, rfl⟩ := List.mem_map.mp (show x ∈ ns.map Nx.enc by rw [hsp]; simp)
    have hlen : ((pre.map fun d => match d with | .tuple [_, _, .tuple ks] => ks | _ => []).flatten).length + n.kids.length ≤ 2000 := by
      have e := congrArg List.length (nxKids_map ns)
      rw [List.length_map, hsp] at e
      simp only [List.map_append, List.map_cons, List.flatten_append, List.flatten_cons, List.length_append] at e
      have e2 : (match n.enc with | .tuple [_, _, .tuple ks] => ks | _ => [] : List PyData).length = n.kids.length := List.length_map ..
      omega
    walk_at "go"
    refine dat_fold trivial (n.kids.map PyData.int) (fun y => [y]) _ ?_ ?_
    · intro y p2 s2 R2 hs2 hR2
      rw [flat_sing] at hR2 ⊢
      have hl4 : p2.length + 1 ≤ n.kids.length := by
        have := congrArg List.length hs2
        simp at this; omega
      walk_at "go"
      refine ⟨by simp only [List.length_map, List.length_append, List.length_nil]; omega, ?_⟩
      rw [List.map_append] at hR2
      exact hR2
    · rw [flat_sing]
      exact hR
  · refine ⟨_, dats_map _, ?_⟩
    exact fin_n (by rw [nxKids_map, List.nil_append]) k
/-! ### is_web -/
abbrev s_is_web : Stmt := top 17
theorem sc_is_web : FnScope ["thing", "parts", "last", "at", "node", "op", "mark", "kids"] ["thing"] (defScope s_is_web) := ⟨rfl, rfl, rfl, by decide +kernel, rfl, by decide +kernel, by decide +kernel⟩
theorem ok_is_web {f : Addr} {fd : FuncData} (F : Fun K "is_web" "is_web" s_is_web f fd) (B : Bln mg) (G : Gln w K mg)
    {f_is_node : Addr} {fd_is_node : FuncData} (g_is_node : GnOk P w K mg base CX0 4 f_is_node fd_is_node ["thing", "at"] (liftSp sp_is_node)) (m_is_node : mg "is_node" = some (.ref f_is_node)) (k_is_node : PySem.W.keepIn K (.ref f_is_node) = true) (b_is_node : Binds K fd_is_node ["thing", "at"] [])
    {f_all_kids : Addr} {fd_all_kids : FuncData} (g_all_kids : GnOk P w K mg base CX0 1 f_all_kids fd_all_kids ["web"] (liftSp sp_all_kids)) (m_all_kids : mg "all_kids" = some (.ref f_all_kids)) (k_all_kids : PySem.W.keepIn K (.ref f_all_kids) = true) (b_all_kids : Binds K fd_all_kids ["web"] [])
    : GnOk P w K mg base CX0 5 f fd ["thing"] (liftSp sp_is_web) := by
  obtain ⟨ga_DEEDS, gm_DEEDS, gw_DEEDS⟩ := G.DEEDS
  obtain ⟨gt_LEAST_NODES, gm_LEAST_NODES⟩ := G.LEAST_NODES
  obtain ⟨gt_MOST_NODES, gm_MOST_NODES⟩ := G.MOST_NODES
  refine okG F sc_is_web (lift_len (by rintro us M Q h; obtain ⟨d, rfl, _⟩ := h; rfl)) (fun cdv A outer s H vs Q E cm hr h => ?_)
  refine def_ok ((ls_seq (ls_if (lt_or (lt_not (lt_B (le_isiC (K := K) .list (le_var (i := 0))))) (lt_not (lt_test (le_chain lr_le lr_le le_int (le_cb (lc_len (K := K)) (la_cons (le_var (i := 0)) la_nil)) le_int)))) (ls_ret le_bl) ls_next)
      (ls_seq (ls_if (lt_not (lt_B (le_cb (lc_all (K := K)) (la_cons (le_lc (li_enum (K := K) (la_cons (le_var (i := 0)) la_nil)) (lgv_tup (K := K) (n := 2) (lgvs_cons (lgv_name (i := 3) (by decide)) (lgvs_cons (lgv_name (i := 4) (by decide)) lgvs_nil))) lt_yes (le_callP (dv := []) (fun _ => .nil) (la_cons (le_var (i := 4)) (la_cons (le_var (i := 3)) la_nil)))) la_nil)))) (ls_ret le_bl) ls_next)
      (ls_seq (ls_asg (le_var (i := 0)) (lg_star (K := K) (m := 2) (i := 0) (lgs_cons (lg_name (i := 1)) (lgs_cons (lg_name (i := 2)) lgs_nil))))
      (ls_seq (ls_if (lt_or (lt_test (le_op (lr_notInT gw_DEEDS) (le_op (lr_ix (K := K)) (le_var (i := 2)) le_int) le_raw)) (lt_B (le_cb (lc_any (K := K)) (la_cons (le_lc (li_list (K := K) (le_var (i := 1))) (lgv_tup (K := K) (n := 3) (lgvs_cons (lgv_name (i := 5) (by decide)) (lgvs_cons (lgv_name (i := 6) (by decide)) (lgvs_cons (lgv_name (i := 7) (by decide)) lgvs_nil)))) lt_yes (le_op (lr_inT gw_DEEDS) (le_var (i := 5)) le_raw)) la_nil)))) (ls_ret le_bl) ls_next)
      (ls_ret (le_op (lr_eq (K := K)) (le_few (K := K) (le_callP (dv := []) (fun _ => .nil) (la_cons (le_var (i := 0)) la_nil))) (le_cb (lc_len (K := K)) (la_cons (le_var (i := 1)) la_nil)))))))))
    ((pss_cons (ps_if (PW.pt (pw_or (pt_not (pt_val (pe_callB (x_isi (K := K) rfl) (by rfl) B.isinstance_ bt_isinstance (pa_cons (pv 0) (pa_cons (pe_bltn (by rfl) B.list_ bt_list (v := .ty "list") rfl) pa_nil))))) (pw_or1 (pt_not (pt_chain op_le op_le (pe_glob (by rfl) gm_LEAST_NODES ⟨_, rfl⟩) (pe_callB (x_len (K := K) rfl) (by rfl) B.len_ bt_len (pa_cons (pv 0) pa_nil)) (pe_glob (by rfl) gm_MOST_NODES ⟨_, rfl⟩)))))) (pss_one (ps_ret pe_bl)) pss_nil)
      (pss_cons (ps_if (pt_not (pt_val (pe_callB (x_all (K := K) rfl rfl) (by rfl) B.all_ bt_all (pa_cons (pe_lc (own := [("at", 3), ("node", 4)]) rfl sc_is_web.nd (pi_enum (by rfl) B.enumerate_ (pa_cons (pv 0) pa_nil)) (blkOk_by (N := ["thing", "parts", "last", "at", "node", "op", "mark", "kids"]) (sc := defScope s_is_web) (by decide +kernel)) (fun _ _ _ _ _ => (pg_tup rfl (pgs_cons (pg_name (i := 3) sc_is_web.nd rfl (Or.inl rfl)) (pgs_cons (pg_name (i := 4) sc_is_web.nd rfl (Or.inl rfl)) pgs_nil)))) (fun _ _ _ _ _ => pts_nil) (fun _ _ _ _ _ => (pe_callG g_is_node cm (hr.mono (by omega)) (by rfl) m_is_node k_is_node b_is_node .nil pass0 (pa_cons (pv 4) (pa_cons (pv 3) pa_nil))))) pa_nil)))) (pss_one (ps_ret pe_bl)) pss_nil)
      (pss_cons (ps_asg (pv 0) (pg_star rfl (pgs_star (pg_name (i := 1) sc_is_web.nd rfl (Or.inl rfl)) (pgs_cons (pg_name (i := 2) sc_is_web.nd rfl (Or.inl rfl)) pgs_nil)) (by decide)))
      (pss_cons (ps_if (PW.pt (pw_or (pt_cmpR (x_notInS (K := K) rfl) (pe_ix (x_ix (K := K) rfl) (pv 2) pe_int (fun _ _ => rfl)) (pe_glob (by rfl) gm_DEEDS (v := .ref ga_DEEDS) rfl) (by first | exact nomark _ | rfl)) (pw_or1 (pt_val (pe_callB (x_any (K := K) rfl rfl) (by rfl) B.any_ bt_any (pa_cons (pe_lc (own := [("op", 5), ("mark", 6), ("kids", 7)]) rfl sc_is_web.nd (pi_list (pv 1)) (blkOk_by (N := ["thing", "parts", "last", "at", "node", "op", "mark", "kids"]) (sc := defScope s_is_web) (by decide +kernel)) (fun _ _ _ _ _ => (pg_tup rfl (pgs_cons (pg_name (i := 5) sc_is_web.nd rfl (Or.inl rfl)) (pgs_cons (pg_name (i := 6) sc_is_web.nd rfl (Or.inl rfl)) (pgs_cons (pg_name (i := 7) sc_is_web.nd rfl (Or.inl rfl)) pgs_nil))))) (fun _ _ _ _ _ => pts_nil) (fun _ _ _ _ _ => (pe_cmpR (x_inS (K := K) rfl) (pv 5) (pe_glob (by rfl) gm_DEEDS (v := .ref ga_DEEDS) rfl) (by first | exact nomark _ | rfl)))) pa_nil)))))) (pss_one (ps_ret pe_bl)) pss_nil)
      (pss_one (ps_ret (pe_cmpR (x_eq (K := K) rfl (hu64 hr)) (pe_lenSetG (by rfl) B.len_ (by rfl) B.set_ (pe_callG g_all_kids cm (hr.mono (by omega)) (by rfl) m_all_kids k_all_kids b_all_kids .nil pass0 (pa_cons (pv 0) pa_nil))) (pe_callB (x_len (K := K) rfl) (by rfl) B.len_ bt_len (pa_cons (pv 1) pa_nil)) (by first | exact nomark _ | rfl)))))))))
    h (fun us M Qu hd => ?_)
  obtain ⟨d, rfl, rfl, ht, k⟩ := hd
  have hsl : 1000000 ≤ sizeLine := by decide
  walk_at "go"
  refine ⟨tame_nd ht, ?_⟩
  cases d with
  | list ds =>
    obtain ⟨hl, hp⟩ := tame_inL ht
    walk_at "go"
    by_cases h2 : (2 : Int) ≤ (ds.length : Int)
    case neg =>
      rw [decide_eq_false h2]
      walk_at "go"
      exact fin_n (by simp only [webB, decide_eq_false (show ¬ 2 ≤ ds.length by omega)]; rfl) k
    rw [decide_eq_true h2]
    walk_at "go"
    by_cases h40 : (ds.length : Int) ≤ 40
    case neg =>
      rw [decide_eq_false h40]
      walk_at "go"
      exact fin_n (by simp only [webB, decide_eq_false (show ¬ ds.length ≤ 40 by omega), Bool.false_and, Bool.and_false]) k
    rw [decide_eq_true h40]
    have e2 : decide (2 ≤ ds.length) = true := decide_eq_true (by omega)
    have e40 : decide (ds.length ≤ 40) = true := decide_eq_true (by omega)
    walk_at "go"
    rw [counted_map]
    refine dat_go trivial (numbered ds) (fun x => .bool (nd1 x)) ?_ ?_
    · intro x acc R hx hlt hR
      obtain ⟨i, d, rfl, hd⟩ := numbered_mem hx
      rw [numbered_len] at hlt
      walk_at "go"
      refine ⟨hp d (List.mem_of_getElem? hd), ?_⟩
      walk_at "go"
      refine ⟨by rw [List.length_map]; omega, ?_⟩
      rw [List.map_append] at hR
      exact hR
    refine ⟨_, dats_map _, ?_⟩
    walk_at "go"
    refine ⟨_, _, _, rfl, rfl, bools_of (numbered ds) nd1, ?_⟩
    have ea : ((numbered ds).map nd1).all id = ndsB ds := by rw [List.all_map]; rfl
    refine ⟨ndsB ds, congrArg (fun b => U.d (.bool b)) ea, ?_⟩
    cases en : ndsB ds with
    | false =>
      walk_at "go"
      exact fin_n (by simp only [webB, e2, e40, en, Bool.false_and, Bool.and_false]) k
    | true =>
      obtain ⟨ns, rfl, hns⟩ := ndsB_nx en
      have hne : ns ≠ [] := fun e => by subst e; simp at h2
      obtain ⟨pre, z, rfl⟩ : ∃ pre z, ns = pre ++ [z] := ⟨ns.dropLast, ns.getLast hne, (List.dropLast_concat_getLast hne).symm⟩
      have eds : (pre ++ [z]).map Nx.enc = pre.map Nx.enc ++ [z.enc] := by simp
      have hlen : ((pre ++ [z]).map Nx.enc).length = pre.length + 1 := by simp
      have eL : ((pre.map Nx.enc ++ [z.enc]).getLast?.map deedD).getD false = decide (z.op ∈ wr_DEEDS) := by rw [List.getLast?_append]; rfl
      have eP : (pre.map Nx.enc ++ [z.enc]).dropLast = pre.map Nx.enc := by simp
      have eW : webB (.list ((pre ++ [z]).map Nx.enc)) = (decide (z.op ∈ wr_DEEDS) && (!((pre.map Nx.enc).any deedD) && decide ((firsts (nxKids (pre ++ [z]))).length = pre.length))) := by
        show (decide (2 ≤ ((pre ++ [z]).map Nx.enc).length) && (decide (((pre ++ [z]).map Nx.enc).length ≤ 40) && (ndsB ((pre ++ [z]).map Nx.enc) && ((((pre ++ [z]).map Nx.enc).getLast?.map deedD).getD false && (!(((pre ++ [z]).map Nx.enc).dropLast.any deedD) && decide ((firsts (((pre ++ [z]).map Nx.enc).map kidsD).flatten).length = ((pre ++ [z]).map Nx.enc).length - 1)))))) = _
        rw [e2, e40, en, kidsD_all, hlen, eds, eL, eP]
        simp
      rw [hlen] at h2 h40 hl
      have hk2 := kids_le hns
      walk_at "go"
      refine ⟨by rw [hlen]; omega, ?_⟩
      walk_at "go"
      rw [eds, star0a, star0b]
      walk_at "go"
      by_cases hz : z.op ∈ wr_DEEDS
      case neg =>
        rw [decide_eq_false hz]
        walk_at "go"
        exact fin_n (by rw [eW, decide_eq_false hz]; rfl) k
      rw [decide_eq_true hz]
      walk_at "go"
      refine dat_go trivial (pre.map Nx.enc) (fun x => .bool (deedD x)) ?_ ?_
      · intro x acc R hx hlt hR
        obtain ⟨n, hn, rfl⟩ := List.mem_map.mp hx
        rw [List.length_map] at hlt
        walk_at "go"
        refine ⟨by rw [List.length_map]; omega, ?_⟩
        rw [List.map_append] at hR
        exact hR
      refine ⟨_, dats_map _, ?_⟩
      walk_at "go"
      refine ⟨_, _, _, rfl, rfl, bools_of (pre.map Nx.enc) deedD, ?_⟩
      have eb : ((pre.map Nx.enc).map deedD).any id = (pre.map Nx.enc).any deedD := by rw [List.any_map]; rfl
      refine ⟨(pre.map Nx.enc).any deedD, congrArg (fun b => U.d (.bool b)) eb, ?_⟩
      cases ep : (pre.map Nx.enc).any deedD with
      | true =>
        walk_at "go"
        exact fin_n (by rw [eW, ep, decide_eq_true hz]; rfl) k
      | false =>
        walk_at "go"
        refine ⟨pre ++ [z], by rw [eds]; rfl, rfl, by simp at h40 ⊢; omega, hk2, _, rfl, ?_⟩
        refine ⟨nxKids (pre ++ [z]), rfl, by have := nxKids_len hk2; simp at this h40; omega, ?_⟩
        walk_at "go"
        refine fin_n ?_ k
        rw [eW, ep, decide_eq_true hz, eqv_i, List.length_map]
        simp
        omega
  | _ =>
    walk_at "go"
    exact fin_n rfl k

/-! ### plain_number -/
abbrev s_plain_number : Stmt := top 21
theorem sc_plain_number : FnScope ["word", "sign"] ["word"] (defScope s_plain_number) := ⟨rfl, rfl, rfl, by decide +kernel, rfl, by decide +kernel, by decide +kernel⟩
theorem ok_plain_number {f : Addr} {fd : FuncData} (F : Fun K "plain_number" "plain_number" s_plain_number f fd) (B : Bln mg) (G : Gln w K mg)
    : GnOk P w K mg base CX0 1 f fd ["word"] (liftSp sp_plain_number) := by
  obtain ⟨gt_FIGURES, gm_FIGURES⟩ := G.FIGURES
  obtain ⟨gt_MOST_FIGURES, gm_MOST_FIGURES⟩ := G.MOST_FIGURES
  refine okG F sc_plain_number (lift_len (by rintro us M Q h; obtain ⟨x, rfl, _⟩ := h; rfl)) (fun cdv A outer s H vs Q E cm hr h => ?_)
  refine def_ok ((ls_seq (ls_if (lt_or (lt_not (lt_test (le_chain lr_le lr_le le_int (le_cb (lc_len (K := K)) (la_cons (le_var (i := 0)) la_nil)) le_int))) (lt_not (lt_B (le_cb (lc_all (K := K)) (la_cons (le_lc (li_str (le_var (i := 0))) (lgv_name (i := 1) (by decide)) lt_yes (le_op (lr_in (K := K)) (le_var (i := 1)) le_str)) la_nil))))) (ls_ret (le_un lu_neg le_int)) ls_next)
      (ls_seq (ls_if (lt_and (lt_test (le_op (lr_ne (K := K)) (le_var (i := 0)) le_str)) (lt_B (le_bm (K := K) (ty_str (K := K)) lm_ss (le_var (i := 0)) (la_cons le_str la_nil)))) (ls_ret (le_un lu_neg le_int)) ls_next)
      (ls_ret (le_cb lc_int10 (la_cons (le_var (i := 0)) (la_cons le_int la_nil)))))))
    ((pss_cons (ps_if (PW.pt (pw_or (pt_not (pt_chain op_le op_le pe_int (pe_callB (x_len (K := K) rfl) (by rfl) B.len_ bt_len (pa_cons (pv 0) pa_nil)) (pe_glob (by rfl) gm_MOST_FIGURES ⟨_, rfl⟩))) (pw_or1 (pt_not (pt_val (pe_callB (x_all (K := K) rfl rfl) (by rfl) B.all_ bt_all (pa_cons (pe_lc (own := [("sign", 1)]) rfl sc_plain_number.nd (pi_str (pv 0)) (blkOk_by (N := ["word", "sign"]) (sc := defScope s_plain_number) (by decide +kernel)) (fun _ _ _ _ _ => (pg_name (i := 1) sc_plain_number.nd rfl (Or.inl rfl))) (fun _ _ _ _ _ => pts_nil) (fun _ _ _ _ _ => (pe_cmpR (x_in (K := K) rfl (hu65 hr)) (pv 1) (pe_glob (by rfl) gm_FIGURES ⟨_, rfl⟩) (by first | exact nomark _ | rfl)))) pa_nil))))))) (pss_one (ps_ret (pe_un un_neg pe_int))) pss_nil)
      (pss_cons (ps_if (PW.pt (pw_and (pt_cmpR (x_ne (K := K) rfl (hu64 hr)) (pv 0) pe_str (by first | exact nomark _ | rfl)) (pw_and1 (pt_val (pe_bm PySem.F.plainAttrs_str PySem.F.slot_str_startswith PySem.F.type_str_startswith mt_startsD (pv 0) (pa_cons pe_str pa_nil)))))) (pss_one (ps_ret (pe_un un_neg pe_int))) pss_nil)
      (pss_one (ps_ret (pe_callTy call_int10 (by rfl) B.int_ bt_int (pa_cons (pv 0) (pa_cons pe_int pa_nil))))))))
    h (fun us M Qu hd => ?_)
  obtain ⟨x, rfl, rfl, hx, k⟩ := hd
  have el : x.length = (TL.tl x).length := TL.len_tl x
  skip
  walk_at "go"
  refine ⟨_, _, _, rfl, rfl, hx, ?_⟩
  walk_at "go"
  refine witeD (fun h1 => ?_) (fun h1 => ?_)
  · walk_at "go"
    by_cases h2 : (x.length : Int) ≤ 5
    · simp only [decide_eq_true h2]
      walk_at "go"
      refine signs_go x (fun c => decide (c ∈ (Str.ofString "0123456789").cps.toList)) ?_ ?_
      · intro c acc R hl hR
        walk_at "go"
        refine ⟨by rw [List.length_map, List.length_map]; omega, ?_⟩
        rw [List.map_append, List.map_append] at hR
        exact hR
      · refine ⟨_, dats_map _, ?_⟩
        walk_at "go"
        refine ⟨_, _, _, rfl, rfl, bools_map _, ?_⟩
        have efig : ((x.cps.toList.map fun c => decide (c ∈ (Str.ofString "0123456789").cps.toList)).all id) = figsL (TL.tl x) := by
          rw [List.all_map]
          exact congrArg (fun f => List.all x.cps.toList f) (funext fun c => fig_in c)
        show ∃ b, U.d (PyData.bool ((x.cps.toList.map fun c => decide (c ∈ (Str.ofString "0123456789").cps.toList)).all id)) = .d (.bool b) ∧ _
        rw [efig]
        cases hf : figsL (TL.tl x) with
        | false =>
          walk_at "go"
          exact fin_n (by rw [pnumL, if_neg (by rw [hf]; exact fun h => nomatch h.2.2.1)]) k
        | true =>
          walk_at "go"
          have hlt : 1 ≤ (TL.tl x).length ∧ (TL.tl x).length ≤ 5 := by omega
          have hval : PySem.intText? x = some ((NumText.digitsVal (TL.tl x) : Nat) : Int) := by
            have e0 := SX.int_S (a := TL.tl x) (by rw [← hf]; exact congrArg (fun f => List.all (TL.tl x) f) (funext fun c => by rw [Bool.eq_iff_iff]; simp)) (fun e => by rw [e] at hlt; simp at hlt) (by omega)
            rwa [show SX.S (TL.tl x) = x from SX.S_tl x] at e0
          refine wsne (fun h0 => ?_) (fun h0 => ?_)
          · walk_at "go"
            refine ⟨⟨_, rfl⟩, ?_⟩
            walk_at "go"
            rw [pre48]
            refine witeD (fun h3 => ?_) (fun h3 => ?_)
            · walk_at "go"
              exact fin_n (by rw [pnumL, if_neg (fun h => h.2.2.2 ⟨fun e => h0 ((str48 x).mpr e), h3⟩)]) k
            · walk_at "go"
              refine ⟨x, _, rfl, hval, by omega, ?_⟩
              exact fin_n (by rw [pnumL, if_pos ⟨hlt.1, hlt.2, hf, fun h => h3 h.2⟩]) k
          · walk_at "go"
            refine ⟨x, _, rfl, hval, by omega, ?_⟩
            exact fin_n (by rw [pnumL, if_pos ⟨hlt.1, hlt.2, hf, fun h => h.1 ((str48 x).mp h0)⟩]) k
    · simp only [decide_eq_false h2]
      walk_at "go"
      exact fin_n (by rw [pnumL, if_neg (by intro h; have := h.2.1; omega)]) k
  · walk_at "go"
    exact fin_n (by rw [pnumL, if_neg (by intro h; have := h.1; omega)]) k

/-! ### show_node -/
abbrev s_show_node : Stmt := top 25
theorem sc_show_node : FnScope ["node", "op", "mark", "kids", "words", "kid"] ["node"] (defScope s_show_node) := ⟨rfl, rfl, rfl, by decide +kernel, rfl, by decide +kernel, by decide +kernel⟩
theorem ok_show_node {f : Addr} {fd : FuncData} (F : Fun K "show_node" "show_node" s_show_node f fd) (B : Bln mg) (G : Gln w K mg)
    : GnOk P w K mg base CX0 1 f fd ["node"] (liftSp sp_show_node) := by
  refine okG F sc_show_node (lift_len (by rintro us M Q h; obtain ⟨n, rfl, _⟩ := h; rfl)) (fun cdv A outer s H vs Q E cm hr h => ?_)
  refine def_ok ((ls_seq (ls_asg (le_var (i := 0)) (lg_tup (K := K) (n := 3) (lgs_cons (lg_name (i := 1)) (lgs_cons (lg_name (i := 2)) (lgs_cons (lg_name (i := 3)) lgs_nil)))))
      (ls_seq (ls_asg (le_if (lt_test (le_op lr_isN (le_var (i := 2)) le_non)) (le_lst (la_cons (le_var (i := 1)) la_nil)) (le_lst (la_cons (le_var (i := 1)) (la_cons (le_cb lc_strX (la_cons (le_var (i := 2)) la_nil)) la_nil)))) (lg_name (i := 4)))
      (ls_ret (le_bm (K := K) (ty_str (K := K)) (lm_join (K := K)) le_str (la_cons (le_op (lr_add (K := K)) (le_var (i := 4)) (le_lc (li_tup (K := K) (le_var (i := 3))) (lgv_name (i := 5) (by decide)) lt_yes (le_cb lc_strI (la_cons (le_var (i := 5)) la_nil)))) la_nil))))))
    ((pss_cons (ps_asg (pv 0) (pg_tup rfl (pgs_cons (pg_name (i := 1) sc_show_node.nd rfl (Or.inl rfl)) (pgs_cons (pg_name (i := 2) sc_show_node.nd rfl (Or.inl rfl)) (pgs_cons (pg_name (i := 3) sc_show_node.nd rfl (Or.inl rfl)) pgs_nil)))))
      (pss_cons (ps_set (i := 4) sc_show_node.nd rfl (Or.inl rfl) (pe_ifExp (pt_cmpR op_isN (pv 2) pe_non (by first | exact nomark _ | rfl)) (pe_lst (pa_cons (pv 1) pa_nil)) (pe_lst (pa_cons (pv 1) (pa_cons (pe_callTy call_strX (by rfl) B.str_ bt_str (pa_cons (pv 2) pa_nil)) pa_nil)))))
      (pss_one (ps_ret (pe_bm PySem.F.plainAttrs_str PySem.F.slot_str_join PySem.F.type_str_join (x_join (K := K) rfl) pe_str (pa_cons (pe_op (x_add (K := K) rfl) (pv 4) (pe_lc (own := [("kid", 5)]) rfl sc_show_node.nd (pi_tup (pv 3)) (blkOk_by (N := ["node", "op", "mark", "kids", "words", "kid"]) (sc := defScope s_show_node) (by decide +kernel)) (fun _ _ _ _ _ => (pg_name (i := 5) sc_show_node.nd rfl (Or.inl rfl))) (fun _ _ _ _ _ => pts_nil) (fun _ _ _ _ _ => (pe_callTy call_strI (by rfl) B.str_ bt_str (pa_cons (pv 5) pa_nil))))) pa_nil)))))))
    h (fun us M Qu hd => ?_)
  obtain ⟨n, rfl, rfl, hn, k⟩ := hd
  have hnl := ndx_len hn
  obtain ⟨op, mark, kids⟩ := n
  have hsl : 1000000 ≤ sizeLine := by decide
  have hk2 : kids.length ≤ 2 := hn.kids
  have hml : (markT mark).length ≤ 1 := by
    unfold markT; split <;> simp
  have hsum := ndx_sum hn
  have hall : (((TL.tl op :: markT mark) ++ kids.map fun (k : Nat) => dg (k : Int)).map mk).map PyData.str = ((TL.tl op :: markT mark).map mk).map PyData.str ++ ((kids.map fun (k : Nat) => dg (k : Int)).map mk).map PyData.str := by rw [List.map_append, List.map_append]
  have hjoin : Txt.join (Str.ofString " ") (((TL.tl op :: markT mark) ++ kids.map fun (k : Nat) => dg (k : Int)).map mk) = mk (ndx ⟨op, mark, kids⟩) := mk_eq (by rw [tl_joins, show TL.tl (Str.ofString " ") = [32] by decide +kernel]; rfl)
  have hop : mk (TL.tl op) = op := (mk_eq rfl).symm
  have hkl : ∀ k ∈ kids, k < 65536 := hn.lt
  skip
  rcases hn.mark with ⟨_, w, hw, w0, w1⟩ | ⟨_, s, hs0, hs⟩ | ⟨_, hnone⟩
  · obtain rfl : mark = .int w := hw
    rw [show ((TL.tl op :: markT (.int w)).map mk).map PyData.str = [PyData.str op, .str (itx w)] by
      show [PyData.str (mk (TL.tl op)), PyData.str (mk (TL.tl (itx w)))] = _
      rw [hop, show mk (TL.tl (itx w)) = itx w from (mk_eq rfl).symm]] at hall
    walk_at "go"
    refine .inl ⟨w, rfl, small_log w0 (by omega), ?_⟩
    walk_at "go"
    refine ⟨⟨_, rfl⟩, ?_⟩
    walk_at "go"
    (refine dat_go trivial (encKids kids) strK ?_ ?_; (· intro x acc R hx hl hR; obtain ⟨kk, hkk, rfl⟩ := List.mem_map.mp hx; have := hkl kk hkk; rw [len_kids] at hl; walk_at "go"; refine ⟨small_log (by omega) (by omega), ?_⟩; walk_at "go"; refine ⟨by rw [List.length_map]; omega, ?_⟩; rw [List.map_append] at hR; exact hR); rw [strK_map]; refine ⟨_, dats_map _, ?_⟩; refine ⟨_, _, _, _, rfl, rfl, rfl, by simp only [List.length_cons, List.length_nil, List.length_map]; omega, ?_⟩; refine ⟨_, _, _, _, rfl, rfl, rfl, (congrArg texts hall.symm).trans (texts_str _), node_sum hsum, ?_⟩; exact fin_d0e' hjoin k)
  · obtain rfl : mark = .str s := hs0
    rw [show ((TL.tl op :: markT (.str s)).map mk).map PyData.str = [PyData.str op, .str s] by
      show [PyData.str (mk (TL.tl op)), PyData.str (mk (TL.tl s))] = _
      rw [hop, show mk (TL.tl s) = s from (mk_eq rfl).symm]] at hall
    walk_at "go"
    refine .inr ⟨s, rfl, ?_⟩
    walk_at "go"
    refine ⟨⟨_, rfl⟩, ?_⟩
    walk_at "go"
    (refine dat_go trivial (encKids kids) strK ?_ ?_; (· intro x acc R hx hl hR; obtain ⟨kk, hkk, rfl⟩ := List.mem_map.mp hx; have := hkl kk hkk; rw [len_kids] at hl; walk_at "go"; refine ⟨small_log (by omega) (by omega), ?_⟩; walk_at "go"; refine ⟨by rw [List.length_map]; omega, ?_⟩; rw [List.map_append] at hR; exact hR); rw [strK_map]; refine ⟨_, dats_map _, ?_⟩; refine ⟨_, _, _, _, rfl, rfl, rfl, by simp only [List.length_cons, List.length_nil, List.length_map]; omega, ?_⟩; refine ⟨_, _, _, _, rfl, rfl, rfl, (congrArg texts hall.symm).trans (texts_str _), node_sum hsum, ?_⟩; exact fin_d0e' hjoin k)
  · obtain rfl : mark = .none := hnone
    rw [show ((TL.tl op :: markT .none).map mk).map PyData.str = [PyData.str op] by
      show [PyData.str (mk (TL.tl op))] = _
      rw [hop]] at hall
    walk_at "go"
    refine ⟨⟨_, rfl⟩, ?_⟩
    walk_at "go"
    (refine dat_go trivial (encKids kids) strK ?_ ?_; (· intro x acc R hx hl hR; obtain ⟨kk, hkk, rfl⟩ := List.mem_map.mp hx; have := hkl kk hkk; rw [len_kids] at hl; walk_at "go"; refine ⟨small_log (by omega) (by omega), ?_⟩; walk_at "go"; refine ⟨by rw [List.length_map]; omega, ?_⟩; rw [List.map_append] at hR; exact hR); rw [strK_map]; refine ⟨_, dats_map _, ?_⟩; refine ⟨_, _, _, _, rfl, rfl, rfl, by simp only [List.length_cons, List.length_nil, List.length_map]; omega, ?_⟩; refine ⟨_, _, _, _, rfl, rfl, rfl, (congrArg texts hall.symm).trans (texts_str _), node_sum hsum, ?_⟩; exact fin_d0e' hjoin k)
/-! ### show_web -/
abbrev s_show_web : Stmt := top 26
theorem sc_show_web : FnScope ["web", "node"] ["web"] (defScope s_show_web) := ⟨rfl, rfl, rfl, by decide +kernel, rfl, by decide +kernel, by decide +kernel⟩
theorem ok_show_web {f : Addr} {fd : FuncData} (F : Fun K "show_web" "show_web" s_show_web f fd) (B : Bln mg) (G : Gln w K mg)
    {f_show_node : Addr} {fd_show_node : FuncData} (g_show_node : GnOk P w K mg base CX0 1 f_show_node fd_show_node ["node"] (liftSp sp_show_node)) (m_show_node : mg "show_node" = some (.ref f_show_node)) (k_show_node : PySem.W.keepIn K (.ref f_show_node) = true) (b_show_node : Binds K fd_show_node ["node"] [])
    : GnOk P w K mg base CX0 2 f fd ["web"] (liftSp sp_show_web) := by
  obtain ⟨gt_BETWEEN, gm_BETWEEN⟩ := G.BETWEEN
  refine okG F sc_show_web (lift_len (by rintro us M Q h; obtain ⟨ns, rfl, _⟩ := h; rfl)) (fun cdv A outer s H vs Q E cm hr h => ?_)
  refine def_ok ((ls_ret (le_bm (K := K) (ty_str (K := K)) (lm_join (K := K)) le_str (la_cons (le_lc (li_list (K := K) (le_var (i := 0))) (lgv_name (i := 1) (by decide)) lt_yes (le_callP (dv := []) (fun _ => .nil) (la_cons (le_var (i := 1)) la_nil))) la_nil))))
    ((pss_one (ps_ret (pe_bm PySem.F.plainAttrs_str PySem.F.slot_str_join PySem.F.type_str_join (x_join (K := K) rfl) (pe_glob (by rfl) gm_BETWEEN ⟨_, rfl⟩) (pa_cons (pe_lc (own := [("node", 1)]) rfl sc_show_web.nd (pi_list (pv 0)) (blkOk_by (N := ["web", "node"]) (sc := defScope s_show_web) (by decide +kernel)) (fun _ _ _ _ _ => (pg_name (i := 1) sc_show_web.nd rfl (Or.inl rfl))) (fun _ _ _ _ _ => pts_nil) (fun _ _ _ _ _ => (pe_callG g_show_node cm (hr.mono (by omega)) (by rfl) m_show_node k_show_node b_show_node .nil pass0 (pa_cons (pv 1) pa_nil)))) pa_nil)))))
    h (fun us M Qu hd => ?_)
  obtain ⟨ns, rfl, rfl, hns, hl, k⟩ := hd
  have hsl : 1000000 ≤ sizeLine := by decide
  walk_at "go"
  refine ⟨⟨_, rfl⟩, ?_⟩
  walk_at "go"
  refine wLcGo_rec (fun us acc M => ∃ (dn td : List Nd), (ns = dn ++ td) ∧ (us = (td.map Nd.enc).map U.d) ∧ (acc = (((dn.map ndx).map mk).map PyData.str).map U.d) ∧ M = []) ?_ ?_ _ _ _ ⟨[], ns, rfl, rfl, rfl, rfl⟩
  · rintro acc M ⟨dn, td, hps, hu, ha, rfl⟩
    cases td with
    | cons p td => cases hu
    | nil =>
      rw [List.append_nil] at hps
      subst hps
      refine ⟨trivial, _, by rw [ha]; exact dats_map _, ?_⟩
      refine ⟨_, _, _, _, rfl, rfl, rfl, texts_str _, (web_sum hns hl).1, ?_⟩
      exact fin_d0e' (mk_eq (by rw [tl_joins, show TL.tl (Str.ofString "; ") = [59, 32] by decide +kernel]; rfl)) k
  · rintro u us ih acc M ⟨dn, td, hps, hu, ha, rfl⟩
    cases td with
    | nil => cases hu
    | cons n td =>
      rw [List.map_cons, List.map_cons] at hu
      cases hu
      have hl' : dn.length + 1 ≤ ns.length := by rw [hps]; simp
      refine ⟨trivial, ?_⟩
      walk_at "go"
      refine ⟨hns n (by rw [hps]; simp), _, rfl, ?_⟩
      refine ⟨by rw [ha]; simp only [List.length_map]; omega, ?_⟩
      exact ih _ _ ⟨dn ++ [n], td, by rw [hps]; simp, rfl, by rw [ha]; simp only [List.map_append, List.map_cons, List.map_nil], rfl⟩
/-! ### node -/
abbrev s_node : Stmt := top 38
theorem sc_node : FnScope ["_law_node_here", "_law_op", "_law_mark", "_law_kids", "_law_one", "_law_kid"] ["_law_node_here"] (defScope s_node) := ⟨rfl, rfl, rfl, by decide +kernel, rfl, by decide +kernel, by decide +kernel⟩
theorem ok_node {f : Addr} {fd : FuncData} (F : Fun K "_law_node" "_law_node" s_node f fd) (B : Bln mg) (G : Gln w K mg)
    : GnOk P w K mg base CX0 1 f fd ["_law_node_here"] (liftSp sp_lnode) := by
  refine okG F sc_node (lift_len (by rintro us M Q h; obtain ⟨n, rfl, _⟩ := h; rfl)) (fun cdv A outer s H vs Q E cm hr h => ?_)
  refine def_ok ((ls_seq (ls_asg (le_var (i := 0)) (lg_tup (K := K) (n := 3) (lgs_cons (lg_name (i := 1)) (lgs_cons (lg_name (i := 2)) (lgs_cons (lg_name (i := 3)) lgs_nil)))))
      (ls_ret (le_bm (K := K) (ty_str (K := K)) (lm_join (K := K)) le_str (la_cons (le_op (lr_add (K := K)) (le_op (lr_add (K := K)) (le_lst (la_cons (le_var (i := 1)) la_nil)) (le_lc (li_list (K := K) (le_lst (la_cons (le_var (i := 2)) la_nil))) (lgv_name (i := 4) (by decide)) (lt_test (le_op lr_notN (le_var (i := 4)) le_non)) (le_cb lc_strX (la_cons (le_var (i := 4)) la_nil)))) (le_lc (li_tup (K := K) (le_var (i := 3))) (lgv_name (i := 5) (by decide)) lt_yes (le_cb lc_strI (la_cons (le_var (i := 5)) la_nil)))) la_nil)))))
    ((pss_cons (ps_asg (pv 0) (pg_tup rfl (pgs_cons (pg_name (i := 1) sc_node.nd rfl (Or.inl rfl)) (pgs_cons (pg_name (i := 2) sc_node.nd rfl (Or.inl rfl)) (pgs_cons (pg_name (i := 3) sc_node.nd rfl (Or.inl rfl)) pgs_nil)))))
      (pss_one (ps_ret (pe_bm PySem.F.plainAttrs_str PySem.F.slot_str_join PySem.F.type_str_join (x_join (K := K) rfl) pe_str (pa_cons (pe_op (x_add (K := K) rfl) (pe_op (x_add (K := K) rfl) (pe_lst (pa_cons (pv 1) pa_nil)) (pe_lc (own := [("_law_one", 4)]) rfl sc_node.nd (pi_list (pe_lst (pa_cons (pv 2) pa_nil))) (blkOk_by (N := ["_law_node_here", "_law_op", "_law_mark", "_law_kids", "_law_one", "_law_kid"]) (sc := defScope s_node) (by decide +kernel)) (fun _ _ _ _ _ => (pg_name (i := 4) sc_node.nd rfl (Or.inl rfl))) (fun _ _ _ _ _ => (pts_one (pt_cmpR op_notN (pv 4) pe_non (by first | exact nomark _ | rfl)))) (fun _ _ _ _ _ => (pe_callTy call_strX (by rfl) B.str_ bt_str (pa_cons (pv 4) pa_nil))))) (pe_lc (own := [("_law_kid", 5)]) rfl sc_node.nd (pi_tup (pv 3)) (blkOk_by (N := ["_law_node_here", "_law_op", "_law_mark", "_law_kids", "_law_one", "_law_kid"]) (sc := defScope s_node) (by decide +kernel)) (fun _ _ _ _ _ => (pg_name (i := 5) sc_node.nd rfl (Or.inl rfl))) (fun _ _ _ _ _ => pts_nil) (fun _ _ _ _ _ => (pe_callTy call_strI (by rfl) B.str_ bt_str (pa_cons (pv 5) pa_nil))))) pa_nil))))))
    h (fun us M Qu hd => ?_)
  obtain ⟨n, rfl, rfl, hn, k⟩ := hd
  have hsum := ndx_sum hn
  obtain ⟨op, mark, kids⟩ := n
  have hsl : 1000000 ≤ sizeLine := by decide
  have hk2 : kids.length ≤ 2 := hn.kids
  have hall : (((TL.tl op :: markT mark) ++ kids.map fun (k : Nat) => dg (k : Int)).map mk).map PyData.str = ((TL.tl op :: markT mark).map mk).map PyData.str ++ ((kids.map fun (k : Nat) => dg (k : Int)).map mk).map PyData.str := by rw [List.map_append, List.map_append]
  have hjoin : Txt.join (Str.ofString " ") (((TL.tl op :: markT mark) ++ kids.map fun (k : Nat) => dg (k : Int)).map mk) = mk (ndx ⟨op, mark, kids⟩) := mk_eq (by rw [tl_joins, show TL.tl (Str.ofString " ") = [32] by decide +kernel]; rfl)
  have hop : mk (TL.tl op) = op := (mk_eq rfl).symm
  have hkl : ∀ k ∈ kids, k < 65536 := hn.lt
  skip
  rcases hn.mark with ⟨_, w, hw, w0, w1⟩ | ⟨_, s, hs0, hs⟩ | ⟨_, hnone⟩
  · obtain rfl : mark = .int w := hw
    rw [show ((TL.tl op :: markT (.int w)).map mk).map PyData.str = [PyData.str op] ++ [.str (itx w)] by
      show [PyData.str (mk (TL.tl op)), PyData.str (mk (TL.tl (itx w)))] = _
      rw [hop, show mk (TL.tl (itx w)) = itx w from (mk_eq rfl).symm]; rfl] at hall
    walk_at "go"
    refine ⟨⟨_, rfl⟩, ?_⟩
    walk_at "go"
    refine .inl ⟨w, rfl, small_log w0 (by omega), ?_⟩
    walk_at "go"
    (refine dat_go trivial (encKids kids) strK ?_ ?_; (· intro x acc R hx hl hR; obtain ⟨kk, hkk, rfl⟩ := List.mem_map.mp hx; have := hkl kk hkk; rw [len_kids] at hl; walk_at "go"; refine ⟨small_log (by omega) (by omega), ?_⟩; walk_at "go"; refine ⟨by rw [List.length_map]; omega, ?_⟩; rw [List.map_append] at hR; exact hR); rw [strK_map]; refine ⟨_, dats_map _, ?_⟩; refine ⟨_, _, _, _, rfl, rfl, rfl, by simp only [List.length_append, List.length_cons, List.length_nil, List.length_map]; omega, ?_⟩; refine ⟨_, _, _, _, rfl, rfl, rfl, (congrArg texts hall.symm).trans (texts_str _), node_sum hsum, ?_⟩; exact fin_d0e' hjoin k)
  · obtain rfl : mark = .str s := hs0
    rw [show ((TL.tl op :: markT (.str s)).map mk).map PyData.str = [PyData.str op] ++ [.str s] by
      show [PyData.str (mk (TL.tl op)), PyData.str (mk (TL.tl s))] = _
      rw [hop, show mk (TL.tl s) = s from (mk_eq rfl).symm]; rfl] at hall
    walk_at "go"
    refine ⟨⟨_, rfl⟩, ?_⟩
    walk_at "go"
    refine .inr ⟨s, rfl, ?_⟩
    walk_at "go"
    (refine dat_go trivial (encKids kids) strK ?_ ?_; (· intro x acc R hx hl hR; obtain ⟨kk, hkk, rfl⟩ := List.mem_map.mp hx; have := hkl kk hkk; rw [len_kids] at hl; walk_at "go"; refine ⟨small_log (by omega) (by omega), ?_⟩; walk_at "go"; refine ⟨by rw [List.length_map]; omega, ?_⟩; rw [List.map_append] at hR; exact hR); rw [strK_map]; refine ⟨_, dats_map _, ?_⟩; refine ⟨_, _, _, _, rfl, rfl, rfl, by simp only [List.length_append, List.length_cons, List.length_nil, List.length_map]; omega, ?_⟩; refine ⟨_, _, _, _, rfl, rfl, rfl, (congrArg texts hall.symm).trans (texts_str _), node_sum hsum, ?_⟩; exact fin_d0e' hjoin k)
  · obtain rfl : mark = .none := hnone
    rw [show ((TL.tl op :: markT .none).map mk).map PyData.str = [PyData.str op] ++ [] by
      show [PyData.str (mk (TL.tl op))] = _
      rw [hop]; rfl] at hall
    walk_at "go"
    refine ⟨⟨_, rfl⟩, ?_⟩
    walk_at "go"
    (refine dat_go trivial (encKids kids) strK ?_ ?_; (· intro x acc R hx hl hR; obtain ⟨kk, hkk, rfl⟩ := List.mem_map.mp hx; have := hkl kk hkk; rw [len_kids] at hl; walk_at "go"; refine ⟨small_log (by omega) (by omega), ?_⟩; walk_at "go"; refine ⟨by rw [List.length_map]; omega, ?_⟩; rw [List.map_append] at hR; exact hR); rw [strK_map]; refine ⟨_, dats_map _, ?_⟩; refine ⟨_, _, _, _, rfl, rfl, rfl, by simp only [List.length_append, List.length_cons, List.length_nil, List.length_map]; omega, ?_⟩; refine ⟨_, _, _, _, rfl, rfl, rfl, (congrArg texts hall.symm).trans (texts_str _), node_sum hsum, ?_⟩; exact fin_d0e' hjoin k)
/-! ### text -/
abbrev s_text : Stmt := top 39
theorem sc_text : FnScope ["_law_web_here", "_law_node_here"] ["_law_web_here"] (defScope s_text) := ⟨rfl, rfl, rfl, by decide +kernel, rfl, by decide +kernel, by decide +kernel⟩
theorem ok_text {f : Addr} {fd : FuncData} (F : Fun K "_law_text" "_law_text" s_text f fd) (B : Bln mg) (G : Gln w K mg)
    {f_node : Addr} {fd_node : FuncData} (g_node : GnOk P w K mg base CX0 1 f_node fd_node ["_law_node_here"] (liftSp sp_lnode)) (m_node : mg "_law_node" = some (.ref f_node)) (k_node : PySem.W.keepIn K (.ref f_node) = true) (b_node : Binds K fd_node ["_law_node_here"] [])
    : GnOk P w K mg base CX0 2 f fd ["_law_web_here"] (liftSp sp_ltext) := by
  refine okG F sc_text (lift_len (by rintro us M Q h; obtain ⟨ns, rfl, _⟩ := h; rfl)) (fun cdv A outer s H vs Q E cm hr h => ?_)
  refine def_ok ((ls_ret (le_bm (K := K) (ty_str (K := K)) (lm_join (K := K)) le_str (la_cons (le_lc (li_list (K := K) (le_var (i := 0))) (lgv_name (i := 1) (by decide)) lt_yes (le_callP (dv := []) (fun _ => .nil) (la_cons (le_var (i := 1)) la_nil))) la_nil))))
    ((pss_one (ps_ret (pe_bm PySem.F.plainAttrs_str PySem.F.slot_str_join PySem.F.type_str_join (x_join (K := K) rfl) pe_str (pa_cons (pe_lc (own := [("_law_node_here", 1)]) rfl sc_text.nd (pi_list (pv 0)) (blkOk_by (N := ["_law_web_here", "_law_node_here"]) (sc := defScope s_text) (by decide +kernel)) (fun _ _ _ _ _ => (pg_name (i := 1) sc_text.nd rfl (Or.inl rfl))) (fun _ _ _ _ _ => pts_nil) (fun _ _ _ _ _ => (pe_callG g_node cm (hr.mono (by omega)) (by rfl) m_node k_node b_node .nil pass0 (pa_cons (pv 1) pa_nil)))) pa_nil)))))
    h (fun us M Qu hd => ?_)
  obtain ⟨ns, rfl, rfl, hns, hl, k⟩ := hd
  have hsl : 1000000 ≤ sizeLine := by decide
  walk_at "go"
  refine ⟨⟨_, rfl⟩, ?_⟩
  walk_at "go"
  refine wLcGo_rec (fun us acc M => ∃ (dn td : List Nd), (ns = dn ++ td) ∧ (us = (td.map Nd.enc).map U.d) ∧ (acc = (((dn.map ndx).map mk).map PyData.str).map U.d) ∧ M = []) ?_ ?_ _ _ _ ⟨[], ns, rfl, rfl, rfl, rfl⟩
  · rintro acc M ⟨dn, td, hps, hu, ha, rfl⟩
    cases td with
    | cons p td => cases hu
    | nil =>
      rw [List.append_nil] at hps
      subst hps
      refine ⟨trivial, _, by rw [ha]; exact dats_map _, ?_⟩
      refine ⟨_, _, _, _, rfl, rfl, rfl, texts_str _, (web_sum hns hl).1, ?_⟩
      exact fin_d0e' (mk_eq (by rw [tl_joins, show TL.tl (Str.ofString "; ") = [59, 32] by decide +kernel]; rfl)) k
  · rintro u us ih acc M ⟨dn, td, hps, hu, ha, rfl⟩
    cases td with
    | nil => cases hu
    | cons n td =>
      rw [List.map_cons, List.map_cons] at hu
      cases hu
      have hl' : dn.length + 1 ≤ ns.length := by rw [hps]; simp
      refine ⟨trivial, ?_⟩
      walk_at "go"
      refine ⟨hns n (by rw [hps]; simp), _, rfl, ?_⟩
      refine ⟨by rw [ha]; simp only [List.length_map]; omega, ?_⟩
      exact ih _ _ ⟨dn ++ [n], td, by rw [hps]; simp, rfl, by rw [ha]; simp only [List.map_append, List.map_cons, List.map_nil], rfl⟩
/-! ### show_program -/
abbrev s_show_program : Stmt := top 27
theorem sc_show_program : FnScope ["program", "web"] ["program"] (defScope s_show_program) := ⟨rfl, rfl, rfl, by decide +kernel, rfl, by decide +kernel, by decide +kernel⟩
theorem ok_show_program {f : Addr} {fd : FuncData} (F : Fun K "show_program" "show_program" s_show_program f fd) (B : Bln mg) (G : Gln w K mg)
    {f_show_web : Addr} {fd_show_web : FuncData} (g_show_web : GnOk P w K mg base CX0 2 f_show_web fd_show_web ["web"] (liftSp sp_show_web)) (m_show_web : mg "show_web" = some (.ref f_show_web)) (k_show_web : PySem.W.keepIn K (.ref f_show_web) = true) (b_show_web : Binds K fd_show_web ["web"] [])
    : GnOk P w K mg base CX0 3 f fd ["program"] (liftSp sp_show_program) := by
  refine okG F sc_show_program (lift_len (by rintro us M Q h; obtain ⟨ws, rfl, _⟩ := h; rfl)) (fun cdv A outer s H vs Q E cm hr h => ?_)
  refine def_ok ((ls_ret (le_bm (K := K) (ty_str (K := K)) (lm_join (K := K)) le_str (la_cons (le_lc (li_list (K := K) (le_var (i := 0))) (lgv_name (i := 1) (by decide)) lt_yes (le_callP (dv := []) (fun _ => .nil) (la_cons (le_var (i := 1)) la_nil))) la_nil))))
    ((pss_one (ps_ret (pe_bm PySem.F.plainAttrs_str PySem.F.slot_str_join PySem.F.type_str_join (x_join (K := K) rfl) pe_str (pa_cons (pe_lc (own := [("web", 1)]) rfl sc_show_program.nd (pi_list (pv 0)) (blkOk_by (N := ["program", "web"]) (sc := defScope s_show_program) (by decide +kernel)) (fun _ _ _ _ _ => (pg_name (i := 1) sc_show_program.nd rfl (Or.inl rfl))) (fun _ _ _ _ _ => pts_nil) (fun _ _ _ _ _ => (pe_callG g_show_web cm (hr.mono (by omega)) (by rfl) m_show_web k_show_web b_show_web .nil pass0 (pa_cons (pv 1) pa_nil)))) pa_nil)))))
    h (fun us M Qu hd => ?_)
  obtain ⟨ws, rfl, rfl, hws, hl, k⟩ := hd
  have hsl : 1000000 ≤ sizeLine := by decide
  walk_at "go"
  refine ⟨⟨_, rfl⟩, ?_⟩
  walk_at "go"
  refine wLcGo_rec (fun us acc M => ∃ (dn td : List (List Nd)), (ws = dn ++ td) ∧ (us = (td.map encWeb).map U.d) ∧ (acc = (((dn.map webx).map mk).map PyData.str).map U.d) ∧ M = []) ?_ ?_ _ _ _ ⟨[], ws, rfl, rfl, rfl, rfl⟩
  · rintro acc M ⟨dn, td, hps, hu, ha, rfl⟩
    cases td with
    | cons p td => cases hu
    | nil =>
      rw [List.append_nil] at hps
      subst hps
      refine ⟨trivial, _, by rw [ha]; exact dats_map _, ?_⟩
      refine ⟨_, _, _, _, rfl, rfl, rfl, texts_str _, (prog_sum hws hl).1, ?_⟩
      exact fin_d0e' (mk_eq (by rw [tl_joins, show TL.tl (Str.ofString "\n") = [10] by decide +kernel]; rfl)) k
  · rintro u us ih acc M ⟨dn, td, hps, hu, ha, rfl⟩
    cases td with
    | nil => cases hu
    | cons n td =>
      rw [List.map_cons, List.map_cons] at hu
      cases hu
      have hl' : dn.length + 1 ≤ ws.length := by rw [hps]; simp
      obtain ⟨w1, w2⟩ := hws n (by rw [hps]; simp)
      refine ⟨trivial, ?_⟩
      walk_at "go"
      refine ⟨w1, w2, _, rfl, ?_⟩
      refine ⟨by rw [ha]; simp only [List.length_map]; omega, ?_⟩
      exact ih _ _ ⟨dn ++ [n], td, by rw [hps]; simp, rfl, by rw [ha]; simp only [List.map_append, List.map_cons, List.map_nil], rfl⟩

/-! ### read_mark -/
abbrev s_read_mark : Stmt := top 28
theorem sc_read_mark : FnScope ["op", "word"] ["op", "word"] (defScope s_read_mark) := ⟨rfl, rfl, rfl, by decide +kernel, rfl, by decide +kernel, by decide +kernel⟩
theorem ok_read_mark {f : Addr} {fd : FuncData} (F : Fun K "read_mark" "read_mark" s_read_mark f fd) (B : Bln mg) (G : Gln w K mg)
    {f_plain_number : Addr} {fd_plain_number : FuncData} (g_plain_number : GnOk P w K mg base CX0 1 f_plain_number fd_plain_number ["word"] (liftSp sp_plain_number)) (m_plain_number : mg "plain_number" = some (.ref f_plain_number)) (k_plain_number : PySem.W.keepIn K (.ref f_plain_number) = true) (b_plain_number : Binds K fd_plain_number ["word"] [])
    : GnOk P w K mg base CX0 2 f fd ["op", "word"] (liftSp sp_read_mark) := by
  obtain ⟨ga_MARKS, gm_MARKS, gw_MARKS⟩ := G.MARKS
  refine okG F sc_read_mark (lift_len (by rintro us M Q h; obtain ⟨op, w, rfl, _⟩ := h; rfl)) (fun cdv A outer s H vs Q E cm hr h => ?_)
  refine def_ok ((ls_ret (le_if (lt_test (le_op (lr_eq (K := K)) (le_op (lr_getKs gw_MARKS) le_raw (le_var (i := 0))) le_str)) (le_callP (dv := []) (fun _ => .nil) (la_cons (le_var (i := 1)) la_nil)) (le_var (i := 1)))))
    ((pss_one (ps_ret (pe_ifExp (pt_cmpR (x_eq (K := K) rfl (hu64 hr)) (pe_ix (x_ixKd (K := K) rfl rfl) (pe_glob (by rfl) gm_MARKS (v := .ref ga_MARKS) rfl) (pv 0) (fun _ _ => rfl)) pe_str (by first | exact nomark _ | rfl)) (pe_callG g_plain_number cm (hr.mono (by omega)) (by rfl) m_plain_number k_plain_number b_plain_number .nil pass0 (pa_cons (pv 1) pa_nil)) (pv 1)))))
    h (fun us M Qu hd => ?_)
  obtain ⟨op, w, rfl, rfl, hl, k⟩ := hd
  have hsl : 1000000 ≤ sizeLine := by decide
  rcases k with ⟨rfl, k⟩ | ⟨rfl | rfl, k⟩
  · walk_at "go"
    refine ⟨by omega, ?_⟩
    walk_at "go"
    exact fin_d0 k
  · walk_at "go"
    exact fin_d0 k
  · walk_at "go"
    exact fin_d0 k
/-! ### read_node -/
abbrev s_read_node : Stmt := top 29
theorem sc_read_node : FnScope ["text", "op", "words", "mark", "first", "word"] ["text"] (defScope s_read_node) := ⟨rfl, rfl, rfl, by decide +kernel, rfl, by decide +kernel, by decide +kernel⟩
theorem ok_read_node {f : Addr} {fd : FuncData} (F : Fun K "read_node" "read_node" s_read_node f fd) (B : Bln mg) (G : Gln w K mg)
    {f_read_mark : Addr} {fd_read_mark : FuncData} (g_read_mark : GnOk P w K mg base CX0 2 f_read_mark fd_read_mark ["op", "word"] (liftSp sp_read_mark)) (m_read_mark : mg "read_mark" = some (.ref f_read_mark)) (k_read_mark : PySem.W.keepIn K (.ref f_read_mark) = true) (b_read_mark : Binds K fd_read_mark ["op", "word"] [])
    {f_plain_number : Addr} {fd_plain_number : FuncData} (g_plain_number : GnOk P w K mg base CX0 1 f_plain_number fd_plain_number ["word"] (liftSp sp_plain_number)) (m_plain_number : mg "plain_number" = some (.ref f_plain_number)) (k_plain_number : PySem.W.keepIn K (.ref f_plain_number) = true) (b_plain_number : Binds K fd_plain_number ["word"] [])
    : GnOk P w K mg base CX0 3 f fd ["text"] (liftSp sp_read_node) := by
  obtain ⟨ga_KIDS, gm_KIDS, gw_KIDS⟩ := G.KIDS
  obtain ⟨ga_MARKS, gm_MARKS, gw_MARKS⟩ := G.MARKS
  refine okG F sc_read_node (lift_len (by rintro us M Q h; obtain ⟨n, rfl, _⟩ := h; rfl)) (fun cdv A outer s H vs Q E cm hr h => ?_)
  refine def_ok ((ls_seq (ls_asg (le_bm (K := K) (ty_str (K := K)) lm_split (le_var (i := 0)) (la_cons le_str la_nil)) (lg_star (K := K) (m := 2) (i := 1) (lgs_cons (lg_name (i := 1)) (lgs_cons (lg_name (i := 2)) lgs_nil))))
      (ls_seq (ls_if (lt_or (lt_test (le_op (lr_notInKd gw_KIDS) (le_var (i := 1)) le_raw)) (lt_test (le_op (lr_ne (K := K)) (le_cb (lc_len (K := K)) (la_cons (le_var (i := 2)) la_nil)) (le_op (lr_add (K := K)) (le_op (lr_getKd gw_KIDS) le_raw (le_var (i := 1))) (le_cb lc_int1 (la_cons (le_op (lr_inKd gw_MARKS) (le_var (i := 1)) le_raw) la_nil)))))) (ls_ret le_non) ls_next)
      (ls_seq (ls_asg le_non (lg_name (i := 3)))
      (ls_seq (ls_if (lt_test (le_op (lr_inKd gw_MARKS) (le_var (i := 1)) le_raw)) (ls_seq (ls_asg (le_var (i := 2)) (lg_star (K := K) (m := 2) (i := 1) (lgs_cons (lg_name (i := 4)) (lgs_cons (lg_name (i := 2)) lgs_nil))))
      (ls_asg (le_callP (dv := []) (fun _ => .nil) (la_cons (le_var (i := 1)) (la_cons (le_var (i := 4)) la_nil))) (lg_name (i := 3)))) ls_next)
      (ls_ret (le_tup (la_cons (le_var (i := 1)) (la_cons (le_var (i := 3)) (la_cons (le_cb (lc_tupOf (K := K)) (la_cons (le_lc (li_list (K := K) (le_var (i := 2))) (lgv_name (i := 5) (by decide)) lt_yes (le_callP (dv := []) (fun _ => .nil) (la_cons (le_var (i := 5)) la_nil))) la_nil)) la_nil))))))))))
    ((pss_cons (ps_asg (pe_bm PySem.F.plainAttrs_str PySem.F.slot_str_split PySem.F.type_str_split mt_splitD (pv 0) (pa_cons pe_str pa_nil)) (pg_star rfl (pgs_cons (pg_name (i := 1) sc_read_node.nd rfl (Or.inl rfl)) (pgs_star (pg_name (i := 2) sc_read_node.nd rfl (Or.inl rfl)) pgs_nil)) (by decide)))
      (pss_cons (ps_if (PW.pt (pw_or (pt_cmpR (x_notInKd (K := K) rfl rfl gw_KIDS) (pv 1) (pe_glob (by rfl) gm_KIDS (v := .ref ga_KIDS) rfl) (by first | exact nomark _ | rfl)) (pw_or1 (pt_cmpR (x_ne (K := K) rfl (hu64 hr)) (pe_callB (x_len (K := K) rfl) (by rfl) B.len_ bt_len (pa_cons (pv 2) pa_nil)) (pe_op (x_add (K := K) rfl) (pe_ix (x_ixKd (K := K) rfl rfl) (pe_glob (by rfl) gm_KIDS (v := .ref ga_KIDS) rfl) (pv 1) (fun _ _ => rfl)) (pe_callTy call_int1 (by rfl) B.int_ bt_int (pa_cons (pe_cmpR (x_inKd (K := K) rfl rfl gw_MARKS) (pv 1) (pe_glob (by rfl) gm_MARKS (v := .ref ga_MARKS) rfl) (by first | exact nomark _ | rfl)) pa_nil))) (by first | exact nomark _ | rfl))))) (pss_one (ps_ret pe_non)) pss_nil)
      (pss_cons (ps_set (i := 3) sc_read_node.nd rfl (Or.inl rfl) pe_non)
      (pss_cons (ps_if (pt_cmpR (x_inKd (K := K) rfl rfl gw_MARKS) (pv 1) (pe_glob (by rfl) gm_MARKS (v := .ref ga_MARKS) rfl) (by first | exact nomark _ | rfl)) (pss_cons (ps_asg (pv 2) (pg_star rfl (pgs_cons (pg_name (i := 4) sc_read_node.nd rfl (Or.inl rfl)) (pgs_star (pg_name (i := 2) sc_read_node.nd rfl (Or.inl rfl)) pgs_nil)) (by decide)))
      (pss_one (ps_set (i := 3) sc_read_node.nd rfl (Or.inl rfl) (pe_callG g_read_mark cm (hr.mono (by omega)) (by rfl) m_read_mark k_read_mark b_read_mark .nil pass0 (pa_cons (pv 1) (pa_cons (pv 4) pa_nil)))))) pss_nil)
      (pss_one (ps_ret (pe_tup (pa_cons (pv 1) (pa_cons (pv 3) (pa_cons (pe_callTy (x_tupOf (K := K) rfl) (by rfl) B.tuple_ bt_tuple (pa_cons (pe_lc (own := [("word", 5)]) rfl sc_read_node.nd (pi_list (pv 2)) (blkOk_by (N := ["text", "op", "words", "mark", "first", "word"]) (sc := defScope s_read_node) (by decide +kernel)) (fun _ _ _ _ _ => (pg_name (i := 5) sc_read_node.nd rfl (Or.inl rfl))) (fun _ _ _ _ _ => pts_nil) (fun _ _ _ _ _ => (pe_callG g_plain_number cm (hr.mono (by omega)) (by rfl) m_plain_number k_plain_number b_plain_number .nil pass0 (pa_cons (pv 5) pa_nil)))) pa_nil)) pa_nil)))))))))))
    h (fun us M Qu hd => ?_)
  obtain ⟨n, rfl, rfl, hn, k⟩ := hd
  have hsl : 1000000 ≤ sizeLine := by decide
  have hnl := ndx_len hn.tx
  walk_at "go"
  refine ⟨⟨_, rfl⟩, ?_⟩
  walk_at "go"
  refine ⟨by rw [mk_len]; omega, ?_⟩
  obtain ⟨op, mark, kids⟩ := n
  have hsp : Txt.split (mk (ndx ⟨op, mark, kids⟩)) (Str.ofString " ") = ((TL.tl op :: markT mark) ++ kids.map (fun (k : Nat) => dg (k : Int))).map mk := ndx_split hn.tx
  rw [hsp]
  have har : wr_KIDS.lookup op = some (kids.length : Int) := hn.ar
  have hop : mk (TL.tl op) = op := (mk_eq rfl).symm
  have hk2 : kids.length ≤ 2 := hn.tx.kids
  rw [List.cons_append, List.map_cons, List.map_cons]
  show wgStar _ _ _ _ _ _ _
  rw [hop]
  walk_at "go"
  refine ⟨by simp, ?_⟩
  walk_at "go"
  rw [starS]
  walk_at "go"
  refine ⟨by simp, ?_⟩
  walk_at "go"
  rw [har]
  walk_at "go"
  refine ⟨op, _, rfl, har, ?_⟩
  walk_at "go"
  have hno : ∀ o ∈ opNames, (o ≠ "num" ∧ o ≠ "var" ∧ o ≠ "set") → wr_MARKS.lookup o = none := by decide +kernel
  have hkl : ∀ k ∈ kids, k < 65536 := hn.tx.lt
  skip
  rcases hn.tx.mark with ⟨hop1, w, hw, w0, w1⟩ | ⟨hop1, s, hs0, hs⟩ | ⟨hop1, hnone⟩
  · obtain rfl : op = "num" := hop1
    obtain rfl : mark = .int w := hw
    rw [show ((markT (.int w) ++ kids.map (fun (k : Nat) => dg (k : Int))).map mk).map PyData.str = PyData.str (mk (dg w)) :: (kids.map (fun (k : Nat) => mk (dg (k : Int)))).map PyData.str by rw [List.map_append, List.map_map]; rfl]
    have hlk : wr_MARKS.lookup (Str.ofString "num") = some "word" := by decide +kernel
    walk_at "go"
    rw [eqv_i, decide_eq_true (by rw [hlk]; simp)]
    walk_at "go"
    rw [starS]
    walk_at "go"
    refine ⟨by simp, ?_⟩
    walk_at "go"
    refine ⟨by simp, ?_⟩
    walk_at "go"
    have hd := dg_len w0 (by omega : w < 1000000)
    refine ⟨by rw [mk_len]; omega, .inl ⟨rfl, ?_⟩⟩
    rw [tl_mk, pnum_dg w0 (by omega)]
    walk_at "go"
    (refine dat_go trivial ((kids.map fun (k : Nat) => mk (dg (k : Int))).map PyData.str) numK ?_ ?_; (· intro x acc R hx hl hR; obtain ⟨y, hy, rfl⟩ := List.mem_map.mp hx; obtain ⟨kk, hkk, rfl⟩ := List.mem_map.mp hy; have hk5 := hkl kk hkk; have hd := dg_len (i := (kk : Int)) (by omega) (by omega); rw [List.length_map, List.length_map] at hl; walk_at "go"; refine ⟨by rw [mk_len]; omega, ?_⟩; rw [tl_mk, pnum_dg (by omega) (by omega)]; walk_at "go"; refine ⟨by rw [List.length_map]; omega, ?_⟩; rw [List.map_append] at hR; rw [numK_at hk5] at hR; exact hR); rw [numK_map hkl]; refine ⟨_, dats_map _, ?_⟩; walk_at "go"; exact fin_d0 k)
  · obtain rfl : mark = .str s := hs0
    rw [show ((markT (.str s) ++ kids.map (fun (k : Nat) => dg (k : Int))).map mk).map PyData.str = PyData.str s :: (kids.map (fun (k : Nat) => mk (dg (k : Int)))).map PyData.str by rw [List.map_append, List.map_map]; exact congrArg (fun z => PyData.str z :: (kids.map (fun (k : Nat) => mk (dg (k : Int)))).map PyData.str) (mk_eq rfl).symm]
    have hlk : wr_MARKS.lookup op = some (Str.ofString "name") := by rcases hop1 with h | h <;> (have h' : op = _ := h; rw [h']; decide +kernel)
    rw [hlk]
    walk_at "go"
    rw [eqv_i, decide_eq_true (by simp)]
    walk_at "go"
    rw [hlk]
    walk_at "go"
    rw [starS]
    walk_at "go"
    refine ⟨by simp, ?_⟩
    walk_at "go"
    refine ⟨by simp, ?_⟩
    walk_at "go"
    refine ⟨by have := hs.2.1; have e : s.length = s.cps.toList.length := TL.len_tl s; omega, .inr ⟨hop1, ?_⟩⟩
    walk_at "go"
    (refine dat_go trivial ((kids.map fun (k : Nat) => mk (dg (k : Int))).map PyData.str) numK ?_ ?_; (· intro x acc R hx hl hR; obtain ⟨y, hy, rfl⟩ := List.mem_map.mp hx; obtain ⟨kk, hkk, rfl⟩ := List.mem_map.mp hy; have hk5 := hkl kk hkk; have hd := dg_len (i := (kk : Int)) (by omega) (by omega); rw [List.length_map, List.length_map] at hl; walk_at "go"; refine ⟨by rw [mk_len]; omega, ?_⟩; rw [tl_mk, pnum_dg (by omega) (by omega)]; walk_at "go"; refine ⟨by rw [List.length_map]; omega, ?_⟩; rw [List.map_append] at hR; rw [numK_at hk5] at hR; exact hR); rw [numK_map hkl]; refine ⟨_, dats_map _, ?_⟩; walk_at "go"; exact fin_d0 k)
  · obtain rfl : mark = .none := hnone
    rw [show ((markT .none ++ kids.map (fun (k : Nat) => dg (k : Int))).map mk).map PyData.str = (kids.map (fun (k : Nat) => mk (dg (k : Int)))).map PyData.str by rw [show markT .none ++ kids.map (fun (k : Nat) => dg (k : Int)) = kids.map (fun (k : Nat) => dg (k : Int)) from rfl, List.map_map, List.map_map, List.map_map]; rfl]
    have hlk : wr_MARKS.lookup op = none := hno op hn.tx.op hop1
    rw [hlk]
    walk_at "go"
    rw [eqv_i, decide_eq_true (by simp)]
    walk_at "go"
    rw [hlk]
    walk_at "go"
    (refine dat_go trivial ((kids.map fun (k : Nat) => mk (dg (k : Int))).map PyData.str) numK ?_ ?_; (· intro x acc R hx hl hR; obtain ⟨y, hy, rfl⟩ := List.mem_map.mp hx; obtain ⟨kk, hkk, rfl⟩ := List.mem_map.mp hy; have hk5 := hkl kk hkk; have hd := dg_len (i := (kk : Int)) (by omega) (by omega); rw [List.length_map, List.length_map] at hl; walk_at "go"; refine ⟨by rw [mk_len]; omega, ?_⟩; rw [tl_mk, pnum_dg (by omega) (by omega)]; walk_at "go"; refine ⟨by rw [List.length_map]; omega, ?_⟩; rw [List.map_append] at hR; rw [numK_at hk5] at hR; exact hR); rw [numK_map hkl]; refine ⟨_, dats_map _, ?_⟩; walk_at "go"; exact fin_d0 k)

/-! ### web_in -/
abbrev s_web_in : Stmt := top 30
theorem sc_web_in : FnScope ["line", "web", "text"] ["line"] (defScope s_web_in) := ⟨rfl, rfl, rfl, by decide +kernel, rfl, by decide +kernel, by decide +kernel⟩
theorem ok_web_in {f : Addr} {fd : FuncData} (F : Fun K "web_in" "web_in" s_web_in f fd) (B : Bln mg) (G : Gln w K mg)
    {f_read_node : Addr} {fd_read_node : FuncData} (g_read_node : GnOk P w K mg base CX0 3 f_read_node fd_read_node ["text"] (liftSp sp_read_node)) (m_read_node : mg "read_node" = some (.ref f_read_node)) (k_read_node : PySem.W.keepIn K (.ref f_read_node) = true) (b_read_node : Binds K fd_read_node ["text"] [])
    {f_is_web : Addr} {fd_is_web : FuncData} (g_is_web : GnOk P w K mg base CX0 5 f_is_web fd_is_web ["thing"] (liftSp sp_is_web)) (m_is_web : mg "is_web" = some (.ref f_is_web)) (k_is_web : PySem.W.keepIn K (.ref f_is_web) = true) (b_is_web : Binds K fd_is_web ["thing"] [])
    : GnOk P w K mg base CX0 6 f fd ["line"] (liftSp sp_web_in) := by
  obtain ⟨gt_BETWEEN, gm_BETWEEN⟩ := G.BETWEEN
  refine okG F sc_web_in (lift_len (by rintro us M Q h; obtain ⟨n, rfl, _⟩ := h; rfl)) (fun cdv A outer s H vs Q E cm hr h => ?_)
  refine def_ok ((ls_seq (ls_asg (le_lcC (li_list (K := K) (le_bm (K := K) (ty_str (K := K)) lm_split (le_var (i := 0)) (la_cons le_str la_nil))) (lgv_name (i := 2) (by decide)) lt_yes (le_callP (dv := []) (fun _ => .nil) (la_cons (le_var (i := 2)) la_nil))) (lg_name (i := 1)))
      (ls_ret (le_if (lt_B (le_callV (dv := []) (fun _ => .nil) (la_cons (le_var (i := 1)) la_nil))) (le_var (i := 1)) le_non))))
    ((pss_cons (ps_setLc (i := 1) (own := [("text", 2)]) rfl sc_web_in.nd rfl rfl (sw_true rfl rfl rfl (by decide +kernel)) (pi_list (pe_bm PySem.F.plainAttrs_str PySem.F.slot_str_split PySem.F.type_str_split mt_splitD (pv 0) (pa_cons (pe_glob (by rfl) gm_BETWEEN ⟨_, rfl⟩) pa_nil))) (blkOk_by (N := ["line", "web", "text"]) (sc := defScope s_web_in) (by decide +kernel)) (fun _ _ _ _ _ => (pg_name (i := 2) sc_web_in.nd rfl (Or.inl rfl))) (fun _ _ _ _ _ => pts_nil) (fun _ _ _ _ _ => (pe_callG g_read_node cm (hr.mono (by omega)) (by rfl) m_read_node k_read_node b_read_node .nil pass0 (pa_cons (pv 2) pa_nil))))
      (pss_one (ps_ret (pe_ifExp (pt_val (pe_callG g_is_web cm (hr.mono (by omega)) (by rfl) m_is_web k_is_web b_is_web .nil pass0 (pa_cons (pv 1) pa_nil))) (pv 1) pe_non)))))
    h (fun us M Qu hd => ?_)
  obtain ⟨ns, rfl, rfl, hw, k⟩ := hd
  have hsl : 1000000 ≤ sizeLine := by decide
  have hl2 := hw.l2
  have hnl := webx_len hw.tx (by omega)
  walk_at "go"
  refine ⟨⟨_, rfl⟩, ?_⟩
  walk_at "go"
  refine ⟨by rw [mk_len]; omega, ?_⟩
  rw [webx_split hw.tx hw.l1]
  walk_at "go"
  refine wLcGo_rec (fun us acc M => ∃ (dn td : List Nd), (ns = dn ++ td) ∧ (us = (((td.map ndx).map mk).map PyData.str).map U.d) ∧ (acc = (dn.map Nd.enc).map U.d) ∧ M = []) ?_ ?_ _ _ _ ⟨[], ns, rfl, rfl, rfl, rfl⟩
  · rintro acc M ⟨dn, td, hps, hu, ha, rfl⟩
    cases td with
    | cons p td => cases hu
    | nil =>
      rw [List.append_nil] at hps
      subst hps
      refine ⟨trivial, _, by rw [ha]; exact dats_map _, ?_⟩
      walk_at "go"
      refine ⟨hw.tm, _, rfl, rfl, ?_⟩
      rw [show webB (.list (ns.map Nd.enc)) = true from hw.ok]
      walk_at "go"
      exact fin_k [0] rfl k
  · rintro u us ih acc M ⟨dn, td, hps, hu, ha, rfl⟩
    cases td with
    | nil => cases hu
    | cons n td =>
      rw [List.map_cons, List.map_cons, List.map_cons, List.map_cons] at hu
      cases hu
      have hl' : dn.length + 1 ≤ ns.length := by rw [hps]; simp
      refine ⟨trivial, ?_⟩
      walk_at "go"
      refine ⟨hw.nd n (by rw [hps]; simp), _, rfl, ?_⟩
      walk_at "go"
      refine ⟨by rw [ha]; simp only [List.length_map]; omega, ?_⟩
      exact ih _ _ ⟨dn ++ [n], td, by rw [hps]; simp, rfl, by rw [ha]; simp only [List.map_append, List.map_cons, List.map_nil], rfl⟩
/-! ### read_web -/
abbrev s_read_web : Stmt := top 31
theorem sc_read_web : FnScope ["text", "web"] ["text"] (defScope s_read_web) := ⟨rfl, rfl, rfl, by decide +kernel, rfl, by decide +kernel, by decide +kernel⟩
theorem ok_read_web {f : Addr} {fd : FuncData} (F : Fun K "read_web" "read_web" s_read_web f fd) (B : Bln mg) (G : Gln w K mg)
    {f_web_in : Addr} {fd_web_in : FuncData} (g_web_in : GnOk P w K mg base CX0 6 f_web_in fd_web_in ["line"] (liftSp sp_web_in)) (m_web_in : mg "web_in" = some (.ref f_web_in)) (k_web_in : PySem.W.keepIn K (.ref f_web_in) = true) (b_web_in : Binds K fd_web_in ["line"] [])
    : GnOk P w K mg base CX0 7 f fd ["text"] (liftSp sp_read_web) := by
  refine okG F sc_read_web (lift_len (by rintro us M Q h; obtain ⟨n, rfl, _⟩ := h; rfl)) (fun cdv A outer s H vs Q E cm hr h => ?_)
  refine def_ok ((ls_seq (ls_if (lt_not (lt_B (le_isiC (K := K) .str (le_var (i := 0))))) DL.ls_never ls_next)
      (ls_seq (ls_asg (le_callN (is := []) (dv := []) (fun _ => .nil) (la_cons (le_var (i := 0)) la_nil)) (lg_name (i := 1)))
      (ls_seq (ls_if (lt_test (le_op lr_isN (le_var (i := 1)) le_non)) DL.ls_never ls_next)
      (ls_ret (le_var (i := 1)))))))
    ((pss_cons (ps_if (pt_not (pt_val (pe_callB (x_isi (K := K) rfl) (by rfl) B.isinstance_ bt_isinstance (pa_cons (pv 0) (pa_cons (pe_bltn (by rfl) B.str_ bt_str (v := .ty "str") rfl) pa_nil))))) (pss_one DL.ps_never) pss_nil)
      (pss_cons (ps_set (i := 1) sc_read_web.nd rfl (Or.inl rfl) (pe_callG g_web_in cm (hr.mono (by omega)) (by rfl) m_web_in k_web_in b_web_in .nil pass0 (pa_cons (pv 0) pa_nil)))
      (pss_cons (ps_if (pt_cmpR op_isN (pv 1) pe_non (by first | exact nomark _ | rfl)) (pss_one DL.ps_never) pss_nil)
      (pss_one (ps_ret (pv 1)))))))
    h (fun us M Qu hd => ?_)
  obtain ⟨ns, rfl, rfl, hw, k⟩ := hd
  have hsl : 1000000 ≤ sizeLine := by decide
  walk_at "go"
  refine ⟨hw, _, rfl, ?_⟩
  walk_at "go"
  exact fin_k [0] rfl k
/-! ### read_program -/
abbrev s_read_program : Stmt := top 32
theorem sc_read_program : FnScope ["text", "lines", "program", "line"] ["text"] (defScope s_read_program) := ⟨rfl, rfl, rfl, by decide +kernel, rfl, by decide +kernel, by decide +kernel⟩
theorem ok_read_program {f : Addr} {fd : FuncData} (F : Fun K "read_program" "read_program" s_read_program f fd) (B : Bln mg) (G : Gln w K mg)
    {f_web_in : Addr} {fd_web_in : FuncData} (g_web_in : GnOk P w K mg base CX0 6 f_web_in fd_web_in ["line"] (liftSp sp_web_in)) (m_web_in : mg "web_in" = some (.ref f_web_in)) (k_web_in : PySem.W.keepIn K (.ref f_web_in) = true) (b_web_in : Binds K fd_web_in ["line"] [])
    : GnOk P w K mg base CX0 7 f fd ["text"] (liftSp sp_read_program) := by
  obtain ⟨gt_MOST_LINES, gm_MOST_LINES⟩ := G.MOST_LINES
  refine okG F sc_read_program (lift_len (by rintro us M Q h; obtain ⟨n, rfl, _⟩ := h; rfl)) (fun cdv A outer s H vs Q E cm hr h => ?_)
  refine def_ok ((ls_seq (ls_if (lt_not (lt_B (le_isiC (K := K) .str (le_var (i := 0))))) DL.ls_never ls_next)
      (ls_seq (ls_asg (le_if (lt_test (le_op (lr_ne (K := K)) (le_var (i := 0)) le_str)) (le_bm (K := K) (ty_str (K := K)) lm_split (le_var (i := 0)) (la_cons le_str la_nil)) (le_lst la_nil)) (lg_name (i := 1)))
      (ls_seq (ls_if (lt_test (le_op lr_gt (le_cb (lc_len (K := K)) (la_cons (le_var (i := 1)) la_nil)) le_int)) DL.ls_never ls_next)
      (ls_seq (ls_asg (le_lcP (li_list (K := K) (le_var (i := 1))) (lgv_name (i := 3) (by decide)) lt_yes (le_callN (is := []) (dv := []) (fun _ => .nil) (la_cons (le_var (i := 3)) la_nil))) (lg_name (i := 2)))
      (ls_seq (ls_if (lt_test (le_op (lr_inW (K := K)) le_non (le_var (i := 2)))) DL.ls_never ls_next)
      (ls_ret (le_var (i := 2)))))))))
    ((pss_cons (ps_if (pt_not (pt_val (pe_callB (x_isi (K := K) rfl) (by rfl) B.isinstance_ bt_isinstance (pa_cons (pv 0) (pa_cons (pe_bltn (by rfl) B.str_ bt_str (v := .ty "str") rfl) pa_nil))))) (pss_one DL.ps_never) pss_nil)
      (pss_cons (ps_set (i := 1) sc_read_program.nd rfl (Or.inl rfl) (pe_ifExp (pt_cmpR (x_ne (K := K) rfl (hu64 hr)) (pv 0) pe_str (by first | exact nomark _ | rfl)) (pe_bm PySem.F.plainAttrs_str PySem.F.slot_str_split PySem.F.type_str_split mt_splitD (pv 0) (pa_cons pe_str pa_nil)) (pe_lst pa_nil)))
      (pss_cons (ps_if (pt_cmpR op_gt (pe_callB (x_len (K := K) rfl) (by rfl) B.len_ bt_len (pa_cons (pv 1) pa_nil)) (pe_glob (by rfl) gm_MOST_LINES ⟨_, rfl⟩) (by first | exact nomark _ | rfl)) (pss_one DL.ps_never) pss_nil)
      (pss_cons (ps_setLc (i := 2) (own := [("line", 3)]) rfl sc_read_program.nd rfl rfl (sw_true rfl rfl rfl (by decide +kernel)) (pi_list (pv 1)) (blkOk_by (N := ["text", "lines", "program", "line"]) (sc := defScope s_read_program) (by decide +kernel)) (fun _ _ _ _ _ => (pg_name (i := 3) sc_read_program.nd rfl (Or.inl rfl))) (fun _ _ _ _ _ => pts_nil) (fun _ _ _ _ _ => (pe_callG g_web_in cm (hr.mono (by omega)) (by rfl) m_web_in k_web_in b_web_in .nil pass0 (pa_cons (pv 3) pa_nil))))
      (pss_cons (ps_if (pt_cmpR (x_in (K := K) rfl (hu65 hr)) pe_non (pv 2) (by first | exact nomark _ | rfl)) (pss_one DL.ps_never) pss_nil)
      (pss_one (ps_ret (pv 2)))))))))
    h (fun us M Qu hd => ?_)
  obtain ⟨ws, rfl, rfl, hw, hl, k⟩ := hd
  have hsl : 1000000 ≤ sizeLine := by decide
  have hnl := progx_len hw hl
  walk_at "go"
  by_cases he : ws = []
  · subst he
    rw [show mk (progx []) = Str.ofString "" by decide +kernel]
    refine wsne (fun e => absurd rfl e) (fun _ => ?_)
    walk_at "go"
    exact fin_k [0] rfl k
  · have hne : ¬ mk (progx ws) = Str.ofString "" := by cases ws with | nil => exact absurd rfl he | cons w0 ws0 => exact progx_ne hw
    have hl1 : 1 ≤ ws.length := List.length_pos_iff.mpr he
    rw [eqv_s, decide_eq_false hne]
    walk_at "go"
    refine ⟨⟨_, rfl⟩, ?_⟩
    walk_at "go"
    refine ⟨by rw [mk_len]; omega, ?_⟩
    rw [progx_split hw hl1]
    walk_at "go"
    rw [show decide ((20 : Int) < ((List.map PyData.str (List.map mk (List.map webx ws))).length : Int)) = false from decide_eq_false (by simp at hl ⊢; omega)]
    walk_at "go"
    refine wLcGo_rec (fun us acc M => ∃ dn td : List (List Nd), ws = dn ++ td ∧ us = (((td.map webx).map mk).map PyData.str).map U.d ∧ acc = (List.range' 0 dn.length).map U.p ∧ M = dn.map webO) ?_ ?_ _ _ _ ⟨[], ws, rfl, rfl, rfl, rfl⟩
    · rintro acc M ⟨dn, td, hps, hu, ha, rfl⟩
      cases td with
      | cons p td => cases hu
      | nil =>
        rw [List.append_nil] at hps
        subst hps
        refine ⟨trivial, ?_⟩
        walk_at "go"
        have hv : vd (ws.map webO ++ [.lsp acc]) 5 (.p (ws.map webO).length) = some (.list (ws.map encWeb)) := by
          unfold vd
          dsimp only
          rw [List.getElem?_append_right (Nat.le_refl _), Nat.sub_self]
          dsimp only [List.getElem?_cons_zero]
          rw [ha, vd_webs ws 0 fun i w hi => by
            have hlt := (List.getElem?_eq_some_iff.mp hi).1
            rw [Nat.zero_add, List.getElem?_append_left (by rw [List.length_map]; exact hlt), List.getElem?_map, hi]; rfl]
        refine ⟨.none, ws.map encWeb, rfl, hv, by decide, prog_shaped (fun ns hn => ⟨(hw ns hn).tm, (hw ns hn).dp⟩) (by omega), ?_⟩
        rw [none_in]
        walk_at "go"
        rw [List.length_map, ha]
        have ok : ∀ o ∈ (ws.map webO ++ [Ob.lsp ((List.range' 0 ws.length).map U.p)]).take (ws.length + 1), okOb (ws.length + 1) o := fun o ho => by
          rcases List.mem_append.mp (List.mem_of_mem_take ho) with ho | ho
          · obtain ⟨n, _, rfl⟩ := List.mem_map.mp ho
            exact trivial
          · rw [List.mem_singleton.mp ho]
            intro u hu
            obtain ⟨j, hj, rfl⟩ := List.mem_map.mp hu
            have := List.mem_range'.mp hj
            show j < ws.length + 1
            omega
        refine .inl ⟨ws.length + 1, Nat.zero_le _, by simp, Nat.lt_succ_self _, ok, ?_⟩
        rw [List.take_of_length_le (by simp)]
        exact k
    · rintro u us ih acc M ⟨dn, td, hps, hu, ha, rfl⟩
      cases td with
      | nil => cases hu
      | cons n td =>
        rw [List.map_cons, List.map_cons, List.map_cons, List.map_cons] at hu
        cases hu
        have hl' : dn.length + 1 ≤ ws.length := by rw [hps]; simp
        refine ⟨trivial, ?_⟩
        walk_at "go"
        refine ⟨hw n (by rw [hps]; simp), [webO n], rfl, ?_⟩
        refine ⟨by rw [ha]; simp only [List.length_map, List.length_range']; omega, ?_⟩
        refine ih _ _ ⟨dn ++ [n], td, by rw [hps]; simp, rfl, ?_, by rw [List.map_append]; rfl⟩
        rw [ha, List.length_append, List.length_singleton, List.range'_concat, List.map_append]
        congr 1
        show [U.p ((dn.map webO).length + (0 - 0))] = _
        rw [List.length_map]; simp

/-! ### law -/
abbrev s_law : Stmt := top 40
theorem sc_law : FnScope ["_law_script", "_law_k", "_law_bag_here", "_law_shared", "_law_program", "_law_turn", "_law_texts", "_law_told", "_law_back", "_law_one", "_law_web_here", "_law_text_here"] ["_law_script"] (defScope s_law) := ⟨rfl, rfl, rfl, by decide +kernel, rfl, by decide +kernel, by decide +kernel⟩
theorem ok_law {f : Addr} {fd : FuncData} (F : Fun K "law" "law" s_law f fd) (B : Bln mg) (G : Gln w K mg)
    {f_bag : Addr} {fd_bag : FuncData} (g_bag : GnOk P w K mg base CX0 1 f_bag fd_bag ["_law_script", "_law_at"] (liftSp (sp_bag K))) (m_bag : mg "_law_bag" = some (.ref f_bag)) (k_bag : PySem.W.keepIn K (.ref f_bag) = true) (b_bag : Binds K fd_bag ["_law_script", "_law_at"] [])
    {f_text : Addr} {fd_text : FuncData} (g_text : GnOk P w K mg base CX0 2 f_text fd_text ["_law_web_here"] (liftSp sp_ltext)) (m_text : mg "_law_text" = some (.ref f_text)) (k_text : PySem.W.keepIn K (.ref f_text) = true) (b_text : Binds K fd_text ["_law_web_here"] [])
    {f_read_program : Addr} {fd_read_program : FuncData} (g_read_program : GnOk P w K mg base CX0 7 f_read_program fd_read_program ["text"] (liftSp sp_read_program)) (m_read_program : mg "read_program" = some (.ref f_read_program)) (k_read_program : PySem.W.keepIn K (.ref f_read_program) = true) (b_read_program : Binds K fd_read_program ["text"] [])
    {f_show_program : Addr} {fd_show_program : FuncData} (g_show_program : GnOk P w K mg base CX0 3 f_show_program fd_show_program ["program"] (liftSp sp_show_program)) (m_show_program : mg "show_program" = some (.ref f_show_program)) (k_show_program : PySem.W.keepIn K (.ref f_show_program) = true) (b_show_program : Binds K fd_show_program ["program"] [])
    {f_take : Addr} {fd_take : FuncData} (g_take : GnOk P w K mg base CX0 1 f_take fd_take ["_law_bag_here", "_law_many"] (liftSp sp_take)) (m_take : mg "_law_take" = some (.ref f_take)) (k_take : PySem.W.keepIn K (.ref f_take) = true) (b_take : Binds K fd_take ["_law_bag_here", "_law_many"] [])
    {f_web : Addr} {fd_web : FuncData} (g_web : GnOk P w K mg base CX0 3 f_web fd_web ["_law_bag_here", "_law_many", "_law_shared"] (liftSp sp_web2)) (m_web : mg "_law_web" = some (.ref f_web)) (k_web : PySem.W.keepIn K (.ref f_web) = true) (b_web : Binds K fd_web ["_law_bag_here", "_law_many", "_law_shared"] [])
    {f_read_web : Addr} {fd_read_web : FuncData} (g_read_web : GnOk P w K mg base CX0 7 f_read_web fd_read_web ["text"] (liftSp sp_read_web)) (m_read_web : mg "read_web" = some (.ref f_read_web)) (k_read_web : PySem.W.keepIn K (.ref f_read_web) = true) (b_read_web : Binds K fd_read_web ["text"] [])
    {f_show_web : Addr} {fd_show_web : FuncData} (g_show_web : GnOk P w K mg base CX0 2 f_show_web fd_show_web ["web"] (liftSp sp_show_web)) (m_show_web : mg "show_web" = some (.ref f_show_web)) (k_show_web : PySem.W.keepIn K (.ref f_show_web) = true) (b_show_web : Binds K fd_show_web ["web"] [])
    : GnOk P w K mg base CX0 8 f fd ["_law_script"] (liftSp (spLaw K)) := by
  refine okG F sc_law (lift_len (by rintro us M Q h; obtain ⟨ns, rfl, _⟩ := h; rfl)) (fun cdv A outer s H vs Q E cm hr h => ?_)
  refine def_ok ((ls_seq (ls_for (li_rng1 (la_cons (le_cb lc_max2 (la_cons le_int (la_cons (le_cb lc_min2 (la_cons le_int (la_cons (le_cb (lc_lenS (K := K)) (la_cons (le_var (i := 0)) la_nil)) la_nil))) la_nil))) la_nil)) (lg_name (i := 1)) (ls_tr (ls_seq (ls_asg (le_callC (is := []) (dv := []) (fun _ => .nil) (la_cons (le_var (i := 0)) (la_cons (le_var (i := 1)) la_nil))) (lg_name (i := 2)))
      (ls_seq (ls_par (i := 3) (j := 4) (la_cons (le_op (lr_eq (K := K)) (le_callC (is := [0]) (dv := []) (fun _ => .nil) (la_cons (le_var (i := 2)) (la_cons le_int la_nil))) le_int) (la_cons (le_lstC la_nil) la_nil)))
      (ls_seq (ls_for (li_rng1 (la_cons (le_op (lr_ix (K := K)) (le_tup (la_cons le_int (la_cons le_int (la_cons le_int (la_cons le_int la_nil))))) (le_callC (is := [0]) (dv := []) (fun _ => .nil) (la_cons (le_var (i := 2)) (la_cons le_int la_nil)))) la_nil)) (lg_name (i := 5)) (ls_drop (le_bm (K := K) (ty_list (K := K)) lm_append (le_var (i := 4)) (la_cons (le_callC (is := [0]) (dv := []) (fun _ => .nil) (la_cons (le_var (i := 2)) (la_cons (le_op (lr_add (K := K)) le_int (le_callC (is := [0]) (dv := []) (fun _ => .nil) (la_cons (le_var (i := 2)) (la_cons (le_op (lr_ix (K := K)) (le_tup (la_cons le_int (la_cons le_int la_nil))) (le_callC (is := [0]) (dv := []) (fun _ => .nil) (la_cons (le_var (i := 2)) (la_cons le_int la_nil)))) la_nil)))) (la_cons (le_var (i := 3)) la_nil)))) la_nil))))
      (ls_frz (i := 4) (ls_seq (ls_asg (le_lc (li_list (K := K) (le_var (i := 4))) (lgv_name (i := 10) (by decide)) lt_yes (le_callP (dv := []) (fun _ => .nil) (la_cons (le_var (i := 10)) la_nil))) (lg_name (i := 6)))
      (ls_cut (ls_if (lt_or (lt_test (le_op (lr_ne (K := K)) (le_lc (li_list (K := K) (le_var (i := 4))) (lgv_name (i := 10) (by decide)) lt_yes (le_callP (dv := []) (fun _ => .nil) (la_cons (le_var (i := 10)) la_nil))) (le_var (i := 6)))) (lt_test (le_op (lr_ne (K := K)) (le_callP (dv := []) (fun _ => .nil) (la_cons (le_cb (lc_listOf (K := K)) (la_cons (le_var (i := 4)) la_nil)) la_nil)) (le_bm (K := K) (ty_str (K := K)) (lm_join (K := K)) le_str (la_cons (le_var (i := 6)) la_nil))))) (ls_ret le_bl) ls_next)
      (ls_for (li_rng1 (la_cons le_int la_nil)) (lg_name (i := 5)) (ls_tr (ls_seq (ls_asg (le_lcP (li_list (K := K) (le_var (i := 6))) (lgv_name (i := 11) (by decide)) lt_yes (le_callN (is := []) (dv := []) (fun _ => .nil) (la_cons (le_var (i := 11)) la_nil))) (lg_name (i := 7)))
      (ls_cut (ls_asg (le_callN (is := []) (dv := []) (fun _ => .nil) (la_cons (le_bm (K := K) (ty_str (K := K)) (lm_join (K := K)) le_str (la_cons (le_var (i := 6)) la_nil)) la_nil)) (lg_name (i := 8)))
      (ls_seq (ls_if (lt_or (lt_test (le_op (lr_neW (K := K)) (le_var (i := 7)) (le_var (i := 4)))) (lt_test (le_op (lr_neW (K := K)) (le_var (i := 8)) (le_var (i := 4))))) (ls_ret le_bl) ls_next)
      (ls_seq (ls_for (li_listP (K := K) (le_op (lr_addP (K := K)) (le_var (i := 7)) (le_var (i := 8)))) (lg_name (i := 9)) (ls_drop (le_bm (K := K) (ty_list (K := K)) lm_append (le_var (i := 9)) (la_cons le_non la_nil))))
      (ls_drop (le_bm (K := K) (ty_list (K := K)) lm_appendP (le_var (i := 8)) (la_cons le_non la_nil)))))))))))))))))
      (ls_ret (le_and (le_op (lr_eq (K := K)) (le_callP (dv := []) (fun _ => .nil) (la_cons (le_lst la_nil) la_nil)) le_str) (le_op (lr_eqW (K := K)) (le_callN (is := []) (dv := []) (fun _ => .nil) (la_cons le_str la_nil)) (le_lst la_nil))))))
    ((pss_cons (ps_for PassesOwn.never rfl (pi_range1 (by rfl) B.range_ (pa_cons (pe_callB (call_max2 rfl) (by rfl) B.max_ bt_max (pa_cons pe_int (pa_cons (pe_callB (call_min2 rfl) (by rfl) B.min_ bt_min (pa_cons pe_int (pa_cons (pe_callB (x_len (K := K) rfl) (by rfl) B.len_ bt_len (pa_cons (pv 0) pa_nil)) pa_nil))) pa_nil))) pa_nil)) (pg_name (i := 1) sc_law.nd rfl (Or.inl rfl)) (pss_cons (ps_set (i := 2) sc_law.nd rfl (Or.inl rfl) (pe_callG g_bag cm (hr.mono (by omega)) (by rfl) m_bag k_bag b_bag .nil pass0 (pa_cons (pv 0) (pa_cons (pv 1) pa_nil))))
      (pss_cons (ps_par (i := 3) (j := 4) rfl sc_law.nd rfl rfl (by decide) rfl rfl (pa_cons (pe_cmpR (x_eq (K := K) rfl (hu64 hr)) (pe_callG g_take cm (hr.mono (by omega)) (by rfl) m_take k_take b_take .nil pass0 (pa_cons (pv 2) (pa_cons pe_int pa_nil))) pe_int (by first | exact nomark _ | rfl)) (pa_cons (pe_lst pa_nil) pa_nil)) rfl)
      (pss_cons (ps_for PassesOwn.never rfl (pi_range1 (by rfl) B.range_ (pa_cons (pe_ix (x_ix (K := K) rfl) (pe_tup (pa_cons pe_int (pa_cons pe_int (pa_cons pe_int (pa_cons pe_int pa_nil))))) (pe_callG g_take cm (hr.mono (by omega)) (by rfl) m_take k_take b_take .nil pass0 (pa_cons (pv 2) (pa_cons pe_int pa_nil))) (fun _ _ => rfl)) pa_nil)) (pg_name (i := 5) sc_law.nd rfl (Or.inl rfl)) (pss_one (ps_expr (pe_bm PySem.F.plainAttrs_list PySem.F.slot_list_append PySem.F.type_list_append mt_append (pv 4) (pa_cons (pe_callG g_web cm (hr.mono (by omega)) (by rfl) m_web k_web b_web .nil pass0 (pa_cons (pv 2) (pa_cons (pe_op (x_add (K := K) rfl) pe_int (pe_callG g_take cm (hr.mono (by omega)) (by rfl) m_take k_take b_take .nil pass0 (pa_cons (pv 2) (pa_cons (pe_ix (x_ix (K := K) rfl) (pe_tup (pa_cons pe_int (pa_cons pe_int pa_nil))) (pe_callG g_take cm (hr.mono (by omega)) (by rfl) m_take k_take b_take .nil pass0 (pa_cons (pv 2) (pa_cons pe_int pa_nil))) (fun _ _ => rfl)) pa_nil)))) (pa_cons (pv 3) pa_nil)))) pa_nil)))))
      (pss_cons (ps_setLc (i := 6) (own := [("_law_web_here", 10)]) rfl sc_law.nd rfl rfl (sw_true rfl rfl rfl (by decide +kernel)) (pi_list (pv 4)) (blkOk_by (N := ["_law_script", "_law_k", "_law_bag_here", "_law_shared", "_law_program", "_law_turn", "_law_texts", "_law_told", "_law_back", "_law_one", "_law_web_here", "_law_text_here"]) (sc := defScope s_law) (by decide +kernel)) (fun _ _ _ _ _ => (pg_name (i := 10) sc_law.nd rfl (Or.inl rfl))) (fun _ _ _ _ _ => pts_nil) (fun _ _ _ _ _ => (pe_callG g_text cm (hr.mono (by omega)) (by rfl) m_text k_text b_text .nil pass0 (pa_cons (pv 10) pa_nil))))
      (pss_cons (ps_if (PW.pt (pw_or (pt_cmpR (x_ne (K := K) rfl (hu64 hr)) (pe_lc (own := [("_law_web_here", 10)]) rfl sc_law.nd (pi_list (pv 4)) (blkOk_by (N := ["_law_script", "_law_k", "_law_bag_here", "_law_shared", "_law_program", "_law_turn", "_law_texts", "_law_told", "_law_back", "_law_one", "_law_web_here", "_law_text_here"]) (sc := defScope s_law) (by decide +kernel)) (fun _ _ _ _ _ => (pg_name (i := 10) sc_law.nd rfl (Or.inl rfl))) (fun _ _ _ _ _ => pts_nil) (fun _ _ _ _ _ => (pe_callG g_show_web cm (hr.mono (by omega)) (by rfl) m_show_web k_show_web b_show_web .nil pass0 (pa_cons (pv 10) pa_nil)))) (pv 6) (by first | exact nomark _ | rfl)) (pw_or1 (pt_cmpR (x_ne (K := K) rfl (hu64 hr)) (pe_callG g_show_program cm (hr.mono (by omega)) (by rfl) m_show_program k_show_program b_show_program .nil pass0 (pa_cons (pe_callTy (x_listOf (K := K) rfl) (by rfl) B.list_ bt_list (pa_cons (pv 4) pa_nil)) pa_nil)) (pe_bm PySem.F.plainAttrs_str PySem.F.slot_str_join PySem.F.type_str_join (x_join (K := K) rfl) pe_str (pa_cons (pv 6) pa_nil)) (by first | exact nomark _ | rfl))))) (pss_one (ps_ret pe_bl)) pss_nil)
      (pss_one (ps_for PassesOwn.never rfl (pi_range1 (by rfl) B.range_ (pa_cons pe_int pa_nil)) (pg_name (i := 5) sc_law.nd rfl (Or.inl rfl)) (pss_cons (ps_setLc (i := 7) (own := [("_law_text_here", 11)]) rfl sc_law.nd rfl rfl (sw_true rfl rfl rfl (by decide +kernel)) (pi_list (pv 6)) (blkOk_by (N := ["_law_script", "_law_k", "_law_bag_here", "_law_shared", "_law_program", "_law_turn", "_law_texts", "_law_told", "_law_back", "_law_one", "_law_web_here", "_law_text_here"]) (sc := defScope s_law) (by decide +kernel)) (fun _ _ _ _ _ => (pg_name (i := 11) sc_law.nd rfl (Or.inl rfl))) (fun _ _ _ _ _ => pts_nil) (fun _ _ _ _ _ => (pe_callG g_read_web cm (hr.mono (by omega)) (by rfl) m_read_web k_read_web b_read_web .nil pass0 (pa_cons (pv 11) pa_nil))))
      (pss_cons (ps_set (i := 8) sc_law.nd rfl (Or.inl rfl) (pe_callG g_read_program cm (hr.mono (by omega)) (by rfl) m_read_program k_read_program b_read_program .nil pass0 (pa_cons (pe_bm PySem.F.plainAttrs_str PySem.F.slot_str_join PySem.F.type_str_join (x_join (K := K) rfl) pe_str (pa_cons (pv 6) pa_nil)) pa_nil)))
      (pss_cons (ps_if (PW.pt (pw_or (pt_cmpR (x_ne (K := K) rfl (hu64 hr)) (pv 7) (pv 4) (by first | exact nomark _ | rfl)) (pw_or1 (pt_cmpR (x_ne (K := K) rfl (hu64 hr)) (pv 8) (pv 4) (by first | exact nomark _ | rfl))))) (pss_one (ps_ret pe_bl)) pss_nil)
      (pss_cons (ps_for PassesOwn.never rfl (pi_list (pe_op (x_add (K := K) rfl) (pv 7) (pv 8))) (pg_name (i := 9) sc_law.nd rfl (Or.inl rfl)) (pss_one (ps_expr (pe_bm PySem.F.plainAttrs_list PySem.F.slot_list_append PySem.F.type_list_append mt_append (pv 9) (pa_cons pe_non pa_nil)))))
      (pss_one (ps_expr (pe_bm PySem.F.plainAttrs_list PySem.F.slot_list_append PySem.F.type_list_append mt_append (pv 8) (pa_cons pe_non pa_nil))))))))))))))))
      (pss_one (ps_ret (pe_and (pe_cmpR (x_eq (K := K) rfl (hu64 hr)) (pe_callG g_show_program cm (hr.mono (by omega)) (by rfl) m_show_program k_show_program b_show_program .nil pass0 (pa_cons (pe_lst pa_nil) pa_nil)) pe_str (by first | exact nomark _ | rfl)) (pe_one (pe_cmpR (x_eq (K := K) rfl (hu64 hr)) (pe_callG g_read_program cm (hr.mono (by omega)) (by rfl) m_read_program k_read_program b_read_program .nil pass0 (pa_cons pe_str pa_nil)) (pe_lst pa_nil) (by first | exact nomark _ | rfl))))))))
    h (fun us M Qu hd => ?_)
  obtain ⟨ns, rfl, rfl, hl, k⟩ := hd
  skip
  have hsl : 1000000 ≤ sizeLine := by decide
  walk_at "go"
  refine ⟨by split <;> split <;> omega, ?_⟩
  refine wLoop_recO (fun us ρ M => ∃ (i : Int) (n : Nat) (x_k x_bag_here x_shared x_program x_turn x_texts x_told x_back x_one x_web_here x_text_here : Option U), (us = intsU i n) ∧ (0 ≤ i) ∧ (i + n ≤ 10) ∧ ρ = [some (.s K ns), x_k, x_bag_here, x_shared, x_program, x_turn, x_texts, x_told, x_back, x_one, x_web_here, x_text_here] ∧ M = []) ?_ ?_ _ _ _ ⟨0, _, _, _, _, _, _, _, _, _, _, _, _, rfl, Int.le_refl 0, by split <;> split <;> omega, rfl, rfl⟩
  · rintro ρ M ⟨i, n, x_k, x_bag_here, x_shared, x_program, x_turn, x_texts, x_told, x_back, x_one, x_web_here, x_text_here, hu, hi, hin, rfl, rfl⟩
    refine ⟨trivial, ?_⟩
    walk_at "go"
    refine ⟨[], rfl, rfl, nofun, by decide, _, rfl, ?_⟩
    walk_at "go"
    have hem : mk (progx []) = Str.ofString "" := by decide +kernel
    refine ⟨[], by rw [hem]; rfl, rfl, nofun, by decide, _, rfl, ?_⟩
    walk_at "go"
    refine ⟨.inr ⟨by decide +kernel, by decide +kernel⟩, ?_⟩
    exact fin_n rfl k
  · rintro Nn Rr Bb u us ih ρ M ⟨i, n, x_k, x_bag_here, x_shared, x_program, x_turn, x_texts, x_told, x_back, x_one, x_web_here, x_text_here, hu, hi, hin, rfl, rfl⟩
    cases n with
    | zero => cases hu
    | succ n =>
      rw [intsU_succ] at hu
      cases hu
      refine ⟨trivial, ?_⟩
      walk_at "go"
      refine ⟨hl, hi, by omega, fun g h hb => ?_⟩
      walk_at "go"
      refine ⟨_, _, 2, rfl, rfl, hb, by first | decide | omega | (simp only [List.length_map, len_kids]; omega) | (simp <;> omega), by first | decide | omega | (simp only [List.length_map, len_kids]; omega) | (simp <;> omega), fun sh g h sh_0 sh_1 hb => ?_⟩
      walk_at "go"
      refine ⟨_, _, 4, rfl, rfl, hb, by first | decide | omega | (simp only [List.length_map, len_kids]; omega) | (simp <;> omega), by first | decide | omega | (simp only [List.length_map, len_kids]; omega) | (simp <;> omega), fun tt g h tt_0 tt_1 hb => ?_⟩
      obtain ⟨m, hm, hm2⟩ := turns_at tt tt_0 tt_1
      refine ⟨_, _, _, rfl, rfl, ix_t hm, ?_⟩
      walk_at "go"
      refine ⟨by omega, ?_⟩
      skip
      refine wLoop_recO (fun us ρ M => ∃ (j : Int) (m2 : Nat) (ws : List (List Nd)) (g h : Int) (x_turn x_texts x_told x_back x_one x_web_here x_text_here : Option U), (us = intsU j m2) ∧ (ws.length + m2 = m) ∧ (bagOk g h) ∧ (∀ ns ∈ ws, WebR ns) ∧ ρ = [some (.s K ns), some (.d (.int (i))), some (.p 0), some (.d (.bool ((PyData.eqv (.int sh) (.int 0))))), some (.p 1), x_turn, x_texts, x_told, x_back, x_one, x_web_here, x_text_here] ∧ M = [bagO g h, .lst (ws.map encWeb)]) ?_ ?_ _ _ _ ⟨0, m, [], g, h, _, _, _, _, _, _, _, by rw [Int.toNat_natCast], by simp, hb, nofun, rfl, rfl⟩
      · rintro ρ M ⟨j, m2, ws, g, h, x_turn, x_texts, x_told, x_back, x_one, x_web_here, x_text_here, hu2, hm3, hb, hws, rfl, rfl⟩
        cases m2 with
        | succ n => rw [intsU_succ] at hu2; cases hu2
        | zero =>
          have hmw : ws.length ≤ 20 := by omega
          refine ⟨trivial, ?_⟩
          walk_at "go"
          refine wLcGo_rec (fun us acc M => ∃ (dn td : List (List Nd)), (ws = dn ++ td) ∧ (us = (td.map encWeb).map U.d) ∧ (acc = (txsD dn).map U.d) ∧ M = [bagO g h, .dead]) ?_ ?_ _ _ _ ⟨[], ws, rfl, rfl, rfl, rfl⟩
          · rintro acc M ⟨dn, td, hps, hu, ha, rfl⟩
            cases td with
            | cons p td => cases hu
            | nil =>
              rw [List.append_nil] at hps
              subst hps
              refine ⟨trivial, _, by rw [ha]; exact dats_map _, ?_⟩
              walk_at "go"
              skip
              refine ⟨(fun ρ M => ∃  (x_turn x_told x_back x_one x_web_here x_text_here : Option U), ρ = [some (.s K ns), some (.d (.int (i))), some (.p 0), some (.d (.bool ((PyData.eqv (.int sh) (.int 0))))), some (.d ((.list (ws.map encWeb)))), x_turn, some (.d ((.list (txsD ws)))), x_told, x_back, x_one, x_web_here, x_text_here] ∧ M = [bagO g h, .dead]), ?_, ?_⟩
              · walk_at "go"
                refine wLcGo_rec (fun us acc M => ∃ (dn td : List (List Nd)), (ws = dn ++ td) ∧ (us = (td.map encWeb).map U.d) ∧ (acc = (txsD dn).map U.d) ∧ M = [bagO g h, .dead]) ?_ ?_ _ _ _ ⟨[], ws, rfl, rfl, rfl, rfl⟩
                · rintro acc M ⟨dn, td, hps, hu, ha, rfl⟩
                  cases td with
                  | cons p td => cases hu
                  | nil =>
                    rw [List.append_nil] at hps
                    subst hps
                    refine ⟨trivial, _, by rw [ha]; exact dats_map _, ?_⟩
                    have tsh : SeqAt.shaped (.list (txsD ws)) = true := texts_shaped fun s hs => by
                      obtain ⟨n, hn, rfl⟩ := List.mem_map.mp hs
                      exact webx_small (hws n hn).tx
                    walk_at "go"
                    refine ⟨.list (txsD ws), .list (txsD ws), _, _, rfl, rfl, rfl, .inr ⟨tsh, tsh⟩, ?_⟩
                    rw [SeqAt.eqv_refl _ (SeqAt.canLay_of_shaped tsh)]
                    walk_at "go"
                    have hpr : ∀ n ∈ ws, (∀ m ∈ n, TxNd m) ∧ n.length ≤ 100 := fun n hn => ⟨(hws n hn).tx, by have := (hws n hn).l2; omega⟩
                    refine ⟨hpr, hmw, _, rfl, ?_⟩
                    walk_at "go"
                    refine ⟨⟨_, rfl⟩, ?_⟩
                    walk_at "go"
                    refine ⟨_, _, _, _, rfl, rfl, rfl, texts_str _, (prog_sum hpr hmw).1, ?_⟩
                    rw [show Txt.join (Str.ofString "\n") ((ws.map webx).map mk) = mk (progx ws) from mk_eq (by rw [tl_joins, show TL.tl (Str.ofString "\n") = [10] by decide +kernel]; rfl)]
                    walk_at "go"
                    rw [eqv_s, decide_eq_true rfl]
                    walk_at "go"
                    exact ⟨_, _, _, _, _, _, rfl, rfl⟩
                · rintro u us ih acc M ⟨dn, td, hps, hu, ha, rfl⟩
                  cases td with
                  | nil => cases hu
                  | cons n td =>
                    rw [List.map_cons, List.map_cons] at hu
                    cases hu
                    have hl' : dn.length + 1 ≤ ws.length := by rw [hps]; simp
                    have hn := hws n (by rw [hps]; simp)
                    refine ⟨trivial, ?_⟩
                    walk_at "go"
                    refine ⟨hn.tx, by have := hn.l2; omega, _, rfl, ?_⟩
                    refine ⟨by rw [ha]; simp only [txsD, List.length_map]; omega, ?_⟩
                    exact ih _ _ ⟨dn ++ [n], td, by rw [hps]; simp, rfl, by rw [ha]; simp only [txsD, List.map_append, List.map_cons, List.map_nil], rfl⟩
              · rintro _ _ ⟨x_turn, x_told, x_back, x_one, x_web_here, x_text_here, rfl, rfl⟩
                walk_at "go"
                refine ⟨by decide, ?_⟩
                refine wLoop_recO (fun us ρ M => ∃ (j : Int) (m2 : Nat) (x_turn x_told x_back x_one x_web_here x_text_here : Option U), (us = intsU j m2) ∧ ρ = [some (.s K ns), some (.d (.int (i))), some (.p 0), some (.d (.bool ((PyData.eqv (.int sh) (.int 0))))), some (.d ((.list (ws.map encWeb)))), x_turn, some (.d ((.list (txsD ws)))), x_told, x_back, x_one, x_web_here, x_text_here] ∧ M = [bagO g h, .dead]) ?_ ?_ _ _ _ ⟨0, _, _, _, _, _, _, _, rfl, rfl, rfl⟩
                · rintro ρ M ⟨j, m2, x_turn, x_told, x_back, x_one, x_web_here, x_text_here, hu2, rfl, rfl⟩
                  refine ⟨trivial, ?_⟩
                  refine ⟨Nat.zero_le _, by simp, ?_⟩
                  exact ih _ _ ⟨i + 1, n, _, _, _, _, _, _, _, _, _, _, _, rfl, by omega, by omega, rfl, rfl⟩
                · rintro N3 R3 B3 u us ih3 ρ M ⟨j, m2, x_turn, x_told, x_back, x_one, x_web_here, x_text_here, hu2, rfl, rfl⟩
                  cases m2 with
                  | zero => cases hu2
                  | succ m2 =>
                    rw [intsU_succ] at hu2
                    cases hu2
                    refine ⟨trivial, ?_⟩
                    walk_at "go"
                    refine wLcGo_rec (fun us acc M => ∃ dn td : List (List Nd), ws = dn ++ td ∧ us = (txsD td).map U.d ∧ acc = (List.range' 2 dn.length).map U.p ∧ M = [bagO g h, .dead] ++ dn.map webO) ?_ ?_ _ _ _ ⟨[], ws, rfl, rfl, rfl, rfl⟩
                    · rintro acc M ⟨dn, td, hps, hu, ha, rfl⟩
                      cases td with
                      | cons p td => cases hu
                      | nil =>
                        rw [List.append_nil] at hps
                        subst hps
                        refine ⟨trivial, ?_⟩
                        walk_at "go"
                        refine ⟨fun ρ M => ∃ (a b : Nat) (T B : List U), TB ws g h M a b T B ∧ ρ = [some (.s K ns), some (.d (.int i)), some (.p 0), some (.d (.bool (PyData.eqv (.int sh) (.int 0)))), some (.d (.list (ws.map encWeb))), some (.d (.int j)), some (.d (.list (txsD ws))), some (.p a), some (.p b), x_one, x_web_here, x_text_here], ?_, ?_⟩
                        · have hpr : ∀ n ∈ ws, (∀ m ∈ n, TxNd m) ∧ n.length ≤ 100 := fun n hn => ⟨(hws n hn).tx, by have := (hws n hn).l2; omega⟩
                          refine ⟨⟨_, rfl⟩, ?_⟩
                          walk_at "go"
                          refine ⟨_, _, _, _, rfl, rfl, rfl, texts_str _, (prog_sum hpr hmw).1, ?_⟩
                          rw [show Txt.join (Str.ofString "\n") ((ws.map webx).map mk) = mk (progx ws) from mk_eq (by rw [tl_joins, show TL.tl (Str.ofString "\n") = [10] by decide +kernel]; rfl)]
                          walk_at "go"
                          subst ha
                          refine ⟨hws, hmw, progM ws, rfl, ?_⟩
                          refine ⟨_, _, _, _, tb_ok fun x hx => (hws x hx).l2, ?_⟩
                          have e1 : ([bagO g h, Ob.dead] ++ ws.map webO).length = ws.length + 2 := by simp
                          have e2 : outN [] ([bagO g h, Ob.dead] ++ ws.map webO ++ [Ob.lsp ((List.range' 2 ws.length).map U.p)]).length ws.length = ws.length + 3 + ws.length := by
                            show ([bagO g h, Ob.dead] ++ ws.map webO ++ [Ob.lsp ((List.range' 2 ws.length).map U.p)]).length + (ws.length - 0) = _
                            simp
                          rw [e1]
                          show _ = _
                          rw [← e2]; rfl
                        · rintro _ M ⟨a, b, T, B, hT, rfl⟩
                          walk_at "go"
                          have psh : SeqAt.shaped (.list (ws.map encWeb)) = true := prog_shaped (fun ns hn => ⟨(hws ns hn).tm, (hws ns hn).dp⟩) (by omega)
                          refine ⟨_, _, hT.va, rfl, .inr ⟨psh, psh⟩, ?_⟩
                          rw [SeqAt.eqv_refl _ (SeqAt.canLay_of_shaped psh)]
                          walk_at "go"
                          refine ⟨_, _, hT.vb, rfl, .inr ⟨psh, psh⟩, ?_⟩
                          rw [SeqAt.eqv_refl _ (SeqAt.canLay_of_shaped psh)]
                          walk_at "go"
                          refine ⟨_, _, _, _, rfl, rfl, hT.ha, hT.hb, by rw [hT.lt, hT.lb]; omega, ?_⟩
                          have app : ∀ i X, M[i]? = some X → (M ++ [Ob.lsp (T ++ B)])[i]? = some X := fun i X hi => by
                            rw [List.getElem?_append_left (List.getElem?_eq_some_iff.mp hi).1]; exact hi
                          refine ⟨M.length, T ++ B, rfl, by simp, ?_⟩
                          refine wLoop_recO (fun us ρ Mx => ∃ xo, Gr g h M.length b (T ++ B) B us Mx ∧ ρ = [some (.s K ns), some (.d (.int i)), some (.p 0), some (.d (.bool (PyData.eqv (.int sh) (.int 0)))), some (.d (.list (ws.map encWeb))), some (.d (.int j)), some (.d (.list (txsD ws))), some (.p a), some (.p b), xo, x_web_here, x_text_here]) ?_ ?_ _ _ _ ⟨_, ⟨app _ _ hT.h0, app _ _ hT.h1, by simp, app _ _ hT.hb, fun u hu => ?hcs⟩, rfl⟩
                          · rintro ρ Mx ⟨xo, hG, rfl⟩
                            refine ⟨hG.hc, ?_⟩
                            walk_at "go"
                            refine ⟨.inr ⟨_, _, rfl, hG.hb⟩, ?_⟩
                            walk_at "go"
                            refine ⟨_, _, _, rfl, rfl, hG.hb, by rw [hT.lb]; omega, ?_⟩
                            have hb2 := hT.b2
                            obtain ⟨l2, t2⟩ := take2 (M := Mx.set b (.lsp (B ++ [.d .none]))) (by rw [List.getElem?_set_ne (by omega)]; exact hG.h0) (by rw [List.getElem?_set_ne (by omega)]; exact hG.h1)
                            refine ⟨l2, ?_, ?_⟩
                            · show ∀ o ∈ (Mx.set b (.lsp (B ++ [.d .none]))).take 2, okOb 2 o
                              rw [t2]
                              intro o ho
                              simp only [List.mem_cons, List.not_mem_nil, or_false] at ho
                              rcases ho with rfl | rfl <;> exact trivial
                            · show N3 _ ((Mx.set b (.lsp (B ++ [.d .none]))).take 2)
                              rw [t2]
                              exact ih3 _ _ ⟨j + 1, m2, _, _, _, _, _, _, rfl, rfl, rfl⟩
                          · rintro N4 R4 B4 u us ih4 ρ Mx ⟨xo, hG, rfl⟩
                            obtain ⟨ci, ds, rfl, hi2, hlt, hG2⟩ := gr_step hG
                            refine ⟨hG.hc, ?_⟩
                            walk_at "go"
                            refine ⟨.inl ⟨ds, by show (match Mx[ci]? with | some (.lst ds) => some (PyData.list ds) | _ => none) = _; rw [hi2]⟩, ?_⟩
                            walk_at "go"
                            refine ⟨_, ds, .none, rfl, rfl, hi2, by omega, ?_⟩
                            exact ih4 _ _ ⟨_, hG2, rfl⟩
                          case hcs =>
                            obtain ⟨ci, ds, e, h2, hi2, hl2⟩ := hT.cs u hu
                            exact ⟨ci, ds, e, h2, app _ _ hi2, by rw [List.length_append, hT.lt, hT.lb]; omega⟩
                    · rintro u us ih4 acc M ⟨dn, td, hps, hu, ha, rfl⟩
                      cases td with
                      | nil => cases hu
                      | cons n td =>
                        have hu' : u :: us = U.d (.str (mk (webx n))) :: (txsD td).map U.d := hu
                        cases hu'
                        have hl' : dn.length + 1 ≤ ws.length := by rw [hps]; simp
                        have hn := hws n (by rw [hps]; simp)
                        refine ⟨trivial, ?_⟩
                        walk_at "go"
                        refine ⟨hn, [webO n], rfl, ?_⟩
                        refine ⟨by rw [ha]; simp only [List.length_map, List.length_range']; omega, ?_⟩
                        refine ih4 _ _ ⟨dn ++ [n], td, by rw [hps]; simp, rfl, ?_, by rw [List.map_append]; rfl⟩
                        rw [ha, show (dn ++ [n]).length = dn.length + 1 by simp, List.range'_concat, List.map_append]
                        congr 1
                        show [U.p (([bagO g h, Ob.dead] ++ dn.map webO).length + (0 - 0))] = _
                        simp; omega
          · rintro u us ih acc M ⟨dn, td, hps, hu, ha, rfl⟩
            cases td with
            | nil => cases hu
            | cons n td =>
              rw [List.map_cons, List.map_cons] at hu
              cases hu
              have hl' : dn.length + 1 ≤ ws.length := by rw [hps]; simp
              have hn := hws n (by rw [hps]; simp)
              refine ⟨trivial, ?_⟩
              walk_at "go"
              refine ⟨hn.tx, by have := hn.l2; omega, _, rfl, ?_⟩
              refine ⟨by rw [ha]; simp only [txsD, List.length_map]; omega, ?_⟩
              exact ih _ _ ⟨dn ++ [n], td, by rw [hps]; simp, rfl, by rw [ha]; simp only [txsD, List.map_append, List.map_cons, List.map_nil], rfl⟩
      · rintro N2 R2 B2 u us ih2 ρ M ⟨j, m2, ws, g, h, x_turn, x_texts, x_told, x_back, x_one, x_web_here, x_text_here, hu2, hm3, hb, hws, rfl, rfl⟩
        cases m2 with
        | zero => cases hu2
        | succ m2 =>
          rw [intsU_succ] at hu2
          cases hu2
          refine ⟨trivial, ?_⟩
          walk_at "go"
          refine ⟨.inl ⟨_, rfl⟩, ?_⟩
          walk_at "go"
          refine ⟨_, _, 2, rfl, rfl, hb, by first | decide | omega | (simp only [List.length_map, len_kids]; omega) | (simp <;> omega), by first | decide | omega | (simp only [List.length_map, len_kids]; omega) | (simp <;> omega), fun w2 g h w2_0 w2_1 hb => ?_⟩
          obtain ⟨wd, hwd, wd0, wd1⟩ := wide_at w2 w2_0 w2_1
          refine ⟨_, _, _, rfl, rfl, ix_t hwd, ?_⟩
          walk_at "go"
          refine ⟨_, _, _, rfl, rfl, hb, by first | decide | omega | (simp only [List.length_map, len_kids]; omega) | (simp <;> omega), by first | decide | omega | (simp only [List.length_map, len_kids]; omega) | (simp <;> omega), fun z g h z_0 z_1 hb => ?_⟩
          walk_at "go"
          obtain ⟨mz, rfl⟩ := Int.eq_ofNat_of_zero_le z_0
          refine ⟨_, _, mz + 1, _, by rw [show (1 : Int) + (mz : Int) = ((mz + 1 : Nat) : Int) by omega]; rfl, rfl, hb, by omega, by omega, fun parts deed g' h' hw hp1 hp2 hb' => ?_⟩
          walk_at "go"
          refine ⟨by rw [List.length_map]; omega, ?_⟩
          have hmz : mz < 16 := by omega
          show N2 _ [bagO g' h', Ob.lst (ws.map encWeb ++ [encWeb (parts ++ [deed])])]
          rw [show ws.map encWeb ++ [encWeb (parts ++ [deed])] = (ws ++ [parts ++ [deed]]).map encWeb by simp]
          refine ih2 _ _ ⟨j + 1, m2, ws ++ [parts ++ [deed]], g', h', _, _, _, _, _, _, _, rfl, by simp; omega, hb', ?hw, rfl, rfl⟩
          intro x hx
          rcases List.mem_append.mp hx with hx | hx
          · exact hws x hx
          · rw [List.mem_singleton.mp hx]; exact web_r hw hp1 (by omega)


end
/-! ### what the top has written -/
theorem all_mk {l : PySem.W.OpenLaw} {w : World} {K : PySem.W.Frag} {h : Heap} {mg : Str → Option Value} {fa f1 f2 f3 f4 f5 f6 f7 f8 f9 f10 f11 f12 f13 f14 f15 f16 f17 f18 f19 f20 f21 f22 f23 : Addr} (X : K.In h) (G : h.Ns mainGlobals mg) (hfa : mg "law" = some (.ref fa))
    {od1 an1 od2 an2 od3 an3 od4 an4 od5 an5 od6 an6 od7 an7 od8 an8 od9 an9 od10 an10 od11 an11 od12 an12 od13 an13 od14 an14 od15 an15 od16 an16 od17 an17 od18 an18 od19 an19 od20 an20 od21 an21 od22 an22 od23 an23 : Option Addr} {sl1 sl2 sl3 sl4 sl5 sl6 sl7 sl8 sl9 sl10 sl11 sl12 sl13 sl14 sl15 sl16 sl17 sl18 sl19 sl20 sl21 sl22 sl23 : Array (Option Value)} {oc1 kV1 dc1 pm1 cd1 ct1 oc2 kV2 dc2 pm2 cd2 ct2 oc3 kV3 dc3 pm3 cd3 ct3 oc4 kV4 dc4 pm4 cd4 ct4 oc5 kV5 dc5 pm5 cd5 ct5 oc6 kV6 dc6 pm6 cd6 ct6 oc7 kV7 dc7 pm7 cd7 ct7 oc8 kV8 dc8 pm8 cd8 ct8 oc9 kV9 dc9 pm9 cd9 ct9 oc10 kV10 dc10 pm10 cd10 ct10 oc11 kV11 dc11 pm11 cd11 ct11 oc12 kV12 dc12 pm12 cd12 ct12 oc13 kV13 dc13 pm13 cd13 ct13 oc14 kV14 dc14 pm14 cd14 ct14 oc15 kV15 dc15 pm15 cd15 ct15 oc16 kV16 dc16 pm16 cd16 ct16 oc17 kV17 dc17 pm17 cd17 ct17 oc18 kV18 dc18 pm18 cd18 ct18 oc19 kV19 dc19 pm19 cd19 ct19 oc20 kV20 dc20 pm20 cd20 ct20 oc21 kV21 dc21 pm21 cd21 ct21 oc22 kV22 dc22 pm22 cd22 ct22 oc23 kV23 dc23 pm23 cd23 ct23 : Value}
    (a1 : PySem.W.nsIn K mainGlobals "_law_bag" = some (some (.ref f1))) (l1 : K.lookup f1 = some ⟨oc1, od1, .func (PySem.W.fnOf "_law_bag" "_law_bag" (defArgs s_bag) (defBody s_bag) (defScope s_bag) .none kV1 dc1 pm1 an1 cd1 ct1), sl1⟩) (c1 : PySem.W.codeIn K cd1 "_law_bag" = true) (k1 : PySem.W.keepIn K (.ref f1) = true)
    (a2 : PySem.W.nsIn K mainGlobals "_law_take" = some (some (.ref f2))) (l2 : K.lookup f2 = some ⟨oc2, od2, .func (PySem.W.fnOf "_law_take" "_law_take" (defArgs s_take) (defBody s_take) (defScope s_take) .none kV2 dc2 pm2 an2 cd2 ct2), sl2⟩) (c2 : PySem.W.codeIn K cd2 "_law_take" = true) (k2 : PySem.W.keepIn K (.ref f2) = true)
    (a3 : PySem.W.nsIn K mainGlobals "_law_leaf" = some (some (.ref f3))) (l3 : K.lookup f3 = some ⟨oc3, od3, .func (PySem.W.fnOf "_law_leaf" "_law_leaf" (defArgs s_leaf) (defBody s_leaf) (defScope s_leaf) .none kV3 dc3 pm3 an3 cd3 ct3), sl3⟩) (c3 : PySem.W.codeIn K cd3 "_law_leaf" = true) (k3 : PySem.W.keepIn K (.ref f3) = true)
    (a4 : PySem.W.nsIn K mainGlobals "_law_web" = some (some (.ref f4))) (l4 : K.lookup f4 = some ⟨oc4, od4, .func (PySem.W.fnOf "_law_web" "_law_web" (defArgs s_web) (defBody s_web) (defScope s_web) .none kV4 dc4 pm4 an4 cd4 ct4), sl4⟩) (c4 : PySem.W.codeIn K cd4 "_law_web" = true) (k4 : PySem.W.keepIn K (.ref f4) = true)
    {T5 : Addr} {tc5 : Value} {td5 : Option Addr} {ti5 : Array Value} {tn5 : Nat} {tl5 : Array (Option Value)}
    (a5 : PySem.W.nsIn K mainGlobals "is_whole" = some (some (.ref f5))) (l5 : K.lookup f5 = some ⟨oc5, od5, .func (PySem.W.fnOf "is_whole" "is_whole" (defArgs s_is_whole) (defBody s_is_whole) (defScope s_is_whole) (.ref T5) kV5 dc5 pm5 an5 cd5 ct5), sl5⟩) (c5 : PySem.W.codeIn K cd5 "is_whole" = true) (k5 : PySem.W.keepIn K (.ref f5) = true)
    (t5 : K.lookup T5 = some ⟨tc5, td5, .seq ti5 tn5, tl5⟩) (q5 : ti5.toList.map absV = ([V.int 0, V.int 65535] : List V).map some)
    (a6 : PySem.W.nsIn K mainGlobals "is_word" = some (some (.ref f6))) (l6 : K.lookup f6 = some ⟨oc6, od6, .func (PySem.W.fnOf "is_word" "is_word" (defArgs s_is_word) (defBody s_is_word) (defScope s_is_word) .none kV6 dc6 pm6 an6 cd6 ct6), sl6⟩) (c6 : PySem.W.codeIn K cd6 "is_word" = true) (k6 : PySem.W.keepIn K (.ref f6) = true)
    (a7 : PySem.W.nsIn K mainGlobals "is_name" = some (some (.ref f7))) (l7 : K.lookup f7 = some ⟨oc7, od7, .func (PySem.W.fnOf "is_name" "is_name" (defArgs s_is_name) (defBody s_is_name) (defScope s_is_name) .none kV7 dc7 pm7 an7 cd7 ct7), sl7⟩) (c7 : PySem.W.codeIn K cd7 "is_name" = true) (k7 : PySem.W.keepIn K (.ref f7) = true)
    (a8 : PySem.W.nsIn K mainGlobals "is_mark" = some (some (.ref f8))) (l8 : K.lookup f8 = some ⟨oc8, od8, .func (PySem.W.fnOf "is_mark" "is_mark" (defArgs s_is_mark) (defBody s_is_mark) (defScope s_is_mark) .none kV8 dc8 pm8 an8 cd8 ct8), sl8⟩) (c8 : PySem.W.codeIn K cd8 "is_mark" = true) (k8 : PySem.W.keepIn K (.ref f8) = true)
    (a9 : PySem.W.nsIn K mainGlobals "is_node" = some (some (.ref f9))) (l9 : K.lookup f9 = some ⟨oc9, od9, .func (PySem.W.fnOf "is_node" "is_node" (defArgs s_is_node) (defBody s_is_node) (defScope s_is_node) .none kV9 dc9 pm9 an9 cd9 ct9), sl9⟩) (c9 : PySem.W.codeIn K cd9 "is_node" = true) (k9 : PySem.W.keepIn K (.ref f9) = true)
    (a10 : PySem.W.nsIn K mainGlobals "all_kids" = some (some (.ref f10))) (l10 : K.lookup f10 = some ⟨oc10, od10, .func (PySem.W.fnOf "all_kids" "all_kids" (defArgs s_all_kids) (defBody s_all_kids) (defScope s_all_kids) .none kV10 dc10 pm10 an10 cd10 ct10), sl10⟩) (c10 : PySem.W.codeIn K cd10 "all_kids" = true) (k10 : PySem.W.keepIn K (.ref f10) = true)
    (a11 : PySem.W.nsIn K mainGlobals "is_web" = some (some (.ref f11))) (l11 : K.lookup f11 = some ⟨oc11, od11, .func (PySem.W.fnOf "is_web" "is_web" (defArgs s_is_web) (defBody s_is_web) (defScope s_is_web) .none kV11 dc11 pm11 an11 cd11 ct11), sl11⟩) (c11 : PySem.W.codeIn K cd11 "is_web" = true) (k11 : PySem.W.keepIn K (.ref f11) = true)
    (a12 : PySem.W.nsIn K mainGlobals "plain_number" = some (some (.ref f12))) (l12 : K.lookup f12 = some ⟨oc12, od12, .func (PySem.W.fnOf "plain_number" "plain_number" (defArgs s_plain_number) (defBody s_plain_number) (defScope s_plain_number) .none kV12 dc12 pm12 an12 cd12 ct12), sl12⟩) (c12 : PySem.W.codeIn K cd12 "plain_number" = true) (k12 : PySem.W.keepIn K (.ref f12) = true)
    (a13 : PySem.W.nsIn K mainGlobals "show_node" = some (some (.ref f13))) (l13 : K.lookup f13 = some ⟨oc13, od13, .func (PySem.W.fnOf "show_node" "show_node" (defArgs s_show_node) (defBody s_show_node) (defScope s_show_node) .none kV13 dc13 pm13 an13 cd13 ct13), sl13⟩) (c13 : PySem.W.codeIn K cd13 "show_node" = true) (k13 : PySem.W.keepIn K (.ref f13) = true)
    (a14 : PySem.W.nsIn K mainGlobals "show_web" = some (some (.ref f14))) (l14 : K.lookup f14 = some ⟨oc14, od14, .func (PySem.W.fnOf "show_web" "show_web" (defArgs s_show_web) (defBody s_show_web) (defScope s_show_web) .none kV14 dc14 pm14 an14 cd14 ct14), sl14⟩) (c14 : PySem.W.codeIn K cd14 "show_web" = true) (k14 : PySem.W.keepIn K (.ref f14) = true)
    (a15 : PySem.W.nsIn K mainGlobals "_law_node" = some (some (.ref f15))) (l15 : K.lookup f15 = some ⟨oc15, od15, .func (PySem.W.fnOf "_law_node" "_law_node" (defArgs s_node) (defBody s_node) (defScope s_node) .none kV15 dc15 pm15 an15 cd15 ct15), sl15⟩) (c15 : PySem.W.codeIn K cd15 "_law_node" = true) (k15 : PySem.W.keepIn K (.ref f15) = true)
    (a16 : PySem.W.nsIn K mainGlobals "_law_text" = some (some (.ref f16))) (l16 : K.lookup f16 = some ⟨oc16, od16, .func (PySem.W.fnOf "_law_text" "_law_text" (defArgs s_text) (defBody s_text) (defScope s_text) .none kV16 dc16 pm16 an16 cd16 ct16), sl16⟩) (c16 : PySem.W.codeIn K cd16 "_law_text" = true) (k16 : PySem.W.keepIn K (.ref f16) = true)
    (a17 : PySem.W.nsIn K mainGlobals "show_program" = some (some (.ref f17))) (l17 : K.lookup f17 = some ⟨oc17, od17, .func (PySem.W.fnOf "show_program" "show_program" (defArgs s_show_program) (defBody s_show_program) (defScope s_show_program) .none kV17 dc17 pm17 an17 cd17 ct17), sl17⟩) (c17 : PySem.W.codeIn K cd17 "show_program" = true) (k17 : PySem.W.keepIn K (.ref f17) = true)
    (a18 : PySem.W.nsIn K mainGlobals "read_mark" = some (some (.ref f18))) (l18 : K.lookup f18 = some ⟨oc18, od18, .func (PySem.W.fnOf "read_mark" "read_mark" (defArgs s_read_mark) (defBody s_read_mark) (defScope s_read_mark) .none kV18 dc18 pm18 an18 cd18 ct18), sl18⟩) (c18 : PySem.W.codeIn K cd18 "read_mark" = true) (k18 : PySem.W.keepIn K (.ref f18) = true)
    (a19 : PySem.W.nsIn K mainGlobals "read_node" = some (some (.ref f19))) (l19 : K.lookup f19 = some ⟨oc19, od19, .func (PySem.W.fnOf "read_node" "read_node" (defArgs s_read_node) (defBody s_read_node) (defScope s_read_node) .none kV19 dc19 pm19 an19 cd19 ct19), sl19⟩) (c19 : PySem.W.codeIn K cd19 "read_node" = true) (k19 : PySem.W.keepIn K (.ref f19) = true)
    (a20 : PySem.W.nsIn K mainGlobals "web_in" = some (some (.ref f20))) (l20 : K.lookup f20 = some ⟨oc20, od20, .func (PySem.W.fnOf "web_in" "web_in" (defArgs s_web_in) (defBody s_web_in) (defScope s_web_in) .none kV20 dc20 pm20 an20 cd20 ct20), sl20⟩) (c20 : PySem.W.codeIn K cd20 "web_in" = true) (k20 : PySem.W.keepIn K (.ref f20) = true)
    (a21 : PySem.W.nsIn K mainGlobals "read_web" = some (some (.ref f21))) (l21 : K.lookup f21 = some ⟨oc21, od21, .func (PySem.W.fnOf "read_web" "read_web" (defArgs s_read_web) (defBody s_read_web) (defScope s_read_web) .none kV21 dc21 pm21 an21 cd21 ct21), sl21⟩) (c21 : PySem.W.codeIn K cd21 "read_web" = true) (k21 : PySem.W.keepIn K (.ref f21) = true)
    (a22 : PySem.W.nsIn K mainGlobals "read_program" = some (some (.ref f22))) (l22 : K.lookup f22 = some ⟨oc22, od22, .func (PySem.W.fnOf "read_program" "read_program" (defArgs s_read_program) (defBody s_read_program) (defScope s_read_program) .none kV22 dc22 pm22 an22 cd22 ct22), sl22⟩) (c22 : PySem.W.codeIn K cd22 "read_program" = true) (k22 : PySem.W.keepIn K (.ref f22) = true)
    (a23 : PySem.W.nsIn K mainGlobals "law" = some (some (.ref f23))) (l23 : K.lookup f23 = some ⟨oc23, od23, .func (PySem.W.fnOf "law" "law" (defArgs s_law) (defBody s_law) (defScope s_law) .none kV23 dc23 pm23 an23 cd23 ct23), sl23⟩) (c23 : PySem.W.codeIn K cd23 "law" = true) (k23 : PySem.W.keepIn K (.ref f23) = true)
    (b_abs : PySem.W.nsIn K mainGlobals "abs" = some none)
    (b_len : PySem.W.nsIn K mainGlobals "len" = some none)
    (b_max : PySem.W.nsIn K mainGlobals "max" = some none)
    (b_min : PySem.W.nsIn K mainGlobals "min" = some none)
    (b_int : PySem.W.nsIn K mainGlobals "int" = some none)
    (b_list : PySem.W.nsIn K mainGlobals "list" = some none)
    (b_tuple : PySem.W.nsIn K mainGlobals "tuple" = some none)
    (b_range : PySem.W.nsIn K mainGlobals "range" = some none)
    (b_isinstance : PySem.W.nsIn K mainGlobals "isinstance" = some none)
    (b_all : PySem.W.nsIn K mainGlobals "all" = some none)
    (b_any : PySem.W.nsIn K mainGlobals "any" = some none)
    (b_str : PySem.W.nsIn K mainGlobals "str" = some none)
    (b_set : PySem.W.nsIn K mainGlobals "set" = some none)
    (b_enumerate : PySem.W.nsIn K mainGlobals "enumerate" = some none)
    (b_bool : PySem.W.nsIn K mainGlobals "bool" = some none)
    {t_BETWEEN : _} (v_BETWEEN : PySem.W.nsIn K mainGlobals "BETWEEN" = some (some (.str "; " t_BETWEEN)))
    {ad_DEEDS : Addr} (v_DEEDS : PySem.W.nsIn K mainGlobals "DEEDS" = some (some (.ref ad_DEEDS)))
    {od_DEEDS : Option Addr} {its_DEEDS : Array Value} {n_DEEDS : Nat} {sl_DEEDS : Array (Option Value)} (wl_DEEDS : K.lookup ad_DEEDS = some ⟨.type "tuple", od_DEEDS, .seq its_DEEDS n_DEEDS, sl_DEEDS⟩) (wq_DEEDS : its_DEEDS.toList.map absV = (wr_DEEDS.map V.str).map some)
    {t_FIGURES : _} (v_FIGURES : PySem.W.nsIn K mainGlobals "FIGURES" = some (some (.str "0123456789" t_FIGURES)))
    {ad_KIDS : Addr} (v_KIDS : PySem.W.nsIn K mainGlobals "KIDS" = some (some (.ref ad_KIDS)))
    {es_KIDS : Array DictEntry} {n_KIDS : Nat} (wl_KIDS : K.lookup ad_KIDS = some ⟨.type "dict", none, .dict es_KIDS n_KIDS, #[]⟩) (wk_KIDS : PySem.W.KeysLit w.params es_KIDS.toList) (ws_KIDS : (ad_KIDS == sysModules) = false) (wq_KIDS : es_KIDS.toList.map kv = wr_KIDS.map fun p => (some p.1, some (V.int p.2)))
    {t_LEAST_NODES : _} (v_LEAST_NODES : PySem.W.nsIn K mainGlobals "LEAST_NODES" = some (some (.int 2 t_LEAST_NODES)))
    {t_LETTERS : _} (v_LETTERS : PySem.W.nsIn K mainGlobals "LETTERS" = some (some (.str "abcdefghijklmnopqrstuvwxyz" t_LETTERS)))
    {ad_MARKS : Addr} (v_MARKS : PySem.W.nsIn K mainGlobals "MARKS" = some (some (.ref ad_MARKS)))
    {es_MARKS : Array DictEntry} {n_MARKS : Nat} (wl_MARKS : K.lookup ad_MARKS = some ⟨.type "dict", none, .dict es_MARKS n_MARKS, #[]⟩) (wk_MARKS : PySem.W.KeysLit w.params es_MARKS.toList) (ws_MARKS : (ad_MARKS == sysModules) = false) (wq_MARKS : es_MARKS.toList.map kv = wr_MARKS.map fun p => (some p.1, some (V.str p.2)))
    {t_MOST_FIGURES : _} (v_MOST_FIGURES : PySem.W.nsIn K mainGlobals "MOST_FIGURES" = some (some (.int 5 t_MOST_FIGURES)))
    {t_MOST_LETTERS : _} (v_MOST_LETTERS : PySem.W.nsIn K mainGlobals "MOST_LETTERS" = some (some (.int 8 t_MOST_LETTERS)))
    {t_MOST_LINES : _} (v_MOST_LINES : PySem.W.nsIn K mainGlobals "MOST_LINES" = some (some (.int 20 t_MOST_LINES)))
    {t_MOST_NODES : _} (v_MOST_NODES : PySem.W.nsIn K mainGlobals "MOST_NODES" = some (some (.int 40 t_MOST_NODES)))
    {t_MOST_WORD : _} (v_MOST_WORD : PySem.W.nsIn K mainGlobals "MOST_WORD" = some (some (.int 65535 t_MOST_WORD)))
    : ∃ fd : FuncData, (∀ (s : Shared) (v : Value), BindsTo s fd ⟨[v], []⟩ [("_law_script", v)]) ∧ ∀ base : Heap, K.In base → base.Ns mainGlobals mg → GnOk l.prog w K mg base CX0 8 fa fd ["_law_script"] (liftSp (spLaw K)) := by
  have e := hfa.symm.trans (PySem.W.mg_of X G a23)
  cases e
  have B : Bln mg := ⟨PySem.W.mg_none_of X G b_abs, PySem.W.mg_none_of X G b_len, PySem.W.mg_none_of X G b_max, PySem.W.mg_none_of X G b_min, PySem.W.mg_none_of X G b_int, PySem.W.mg_none_of X G b_list, PySem.W.mg_none_of X G b_tuple, PySem.W.mg_none_of X G b_range, PySem.W.mg_none_of X G b_isinstance, PySem.W.mg_none_of X G b_all, PySem.W.mg_none_of X G b_any, PySem.W.mg_none_of X G b_str, PySem.W.mg_none_of X G b_set, PySem.W.mg_none_of X G b_enumerate, PySem.W.mg_none_of X G b_bool⟩
  have GG : Gln w K mg := ⟨⟨_, PySem.W.mg_of X G v_BETWEEN⟩, ⟨_, PySem.W.mg_of X G v_DEEDS, wrT_mk wl_DEEDS wq_DEEDS (by decide)⟩, ⟨_, PySem.W.mg_of X G v_FIGURES⟩, ⟨_, PySem.W.mg_of X G v_KIDS, wrD_mk wl_KIDS wk_KIDS ws_KIDS wq_KIDS⟩, ⟨_, PySem.W.mg_of X G v_LEAST_NODES⟩, ⟨_, PySem.W.mg_of X G v_LETTERS⟩, ⟨_, PySem.W.mg_of X G v_MARKS, wrD_mk wl_MARKS wk_MARKS ws_MARKS wq_MARKS⟩, ⟨_, PySem.W.mg_of X G v_MOST_FIGURES⟩, ⟨_, PySem.W.mg_of X G v_MOST_LETTERS⟩, ⟨_, PySem.W.mg_of X G v_MOST_LINES⟩, ⟨_, PySem.W.mg_of X G v_MOST_NODES⟩, ⟨_, PySem.W.mg_of X G v_MOST_WORD⟩⟩
  have F1 := fun_mk (st := s_bag) l1 c1 k1
  have B1 := F1.binds (ps := ["_law_script", "_law_at"]) fun _ _ _ _ _ _ us hl => match us, hl with | [_, _], _ => rfl
  have F2 := fun_mk (st := s_take) l2 c2 k2
  have B2 := F2.binds (ps := ["_law_bag_here", "_law_many"]) fun _ _ _ _ _ _ us hl => match us, hl with | [_, _], _ => rfl
  have F3 := fun_mk (st := s_leaf) l3 c3 k3
  have B3 := F3.binds (ps := ["_law_bag_here"]) fun _ _ _ _ _ _ us hl => match us, hl with | [_], _ => rfl
  have F4 := fun_mk (st := s_web) l4 c4 k4
  have B4 := F4.binds (ps := ["_law_bag_here", "_law_many", "_law_shared"]) fun _ _ _ _ _ _ us hl => match us, hl with | [_, _, _], _ => rfl
  have F5 := funF_mk (st := s_is_whole) (dvs := [V.int 0, V.int 65535]) l5 t5 q5 (by simp) c5 k5
  have B5 := FunF.all (ps := ["thing", "low", "high"]) F5 (by simp) fun _ _ _ _ _ _ _ us its hl hi => match us, its, hl, hi with | [_, _, _], [_, _], _, _ => ⟨_, rfl, rfl⟩
  obtain ⟨_, dv2_5, bd2_5⟩ := FunD.binds1 (ps := ["thing", "low", "high"]) F5 1 0 (by simp) rfl fun _ _ _ _ _ _ _ us its hl hi => match us, its, hl, hi with | [_], [_, _], _, _ => ⟨_, rfl, rfl⟩
  have F6 := fun_mk (st := s_is_word) l6 c6 k6
  have B6 := F6.binds (ps := ["thing"]) fun _ _ _ _ _ _ us hl => match us, hl with | [_], _ => rfl
  have F7 := fun_mk (st := s_is_name) l7 c7 k7
  have B7 := F7.binds (ps := ["thing"]) fun _ _ _ _ _ _ us hl => match us, hl with | [_], _ => rfl
  have F8 := fun_mk (st := s_is_mark) l8 c8 k8
  have B8 := F8.binds (ps := ["op", "thing"]) fun _ _ _ _ _ _ us hl => match us, hl with | [_, _], _ => rfl
  have F9 := fun_mk (st := s_is_node) l9 c9 k9
  have B9 := F9.binds (ps := ["thing", "at"]) fun _ _ _ _ _ _ us hl => match us, hl with | [_, _], _ => rfl
  have F10 := fun_mk (st := s_all_kids) l10 c10 k10
  have B10 := F10.binds (ps := ["web"]) fun _ _ _ _ _ _ us hl => match us, hl with | [_], _ => rfl
  have F11 := fun_mk (st := s_is_web) l11 c11 k11
  have B11 := F11.binds (ps := ["thing"]) fun _ _ _ _ _ _ us hl => match us, hl with | [_], _ => rfl
  have F12 := fun_mk (st := s_plain_number) l12 c12 k12
  have B12 := F12.binds (ps := ["word"]) fun _ _ _ _ _ _ us hl => match us, hl with | [_], _ => rfl
  have F13 := fun_mk (st := s_show_node) l13 c13 k13
  have B13 := F13.binds (ps := ["node"]) fun _ _ _ _ _ _ us hl => match us, hl with | [_], _ => rfl
  have F14 := fun_mk (st := s_show_web) l14 c14 k14
  have B14 := F14.binds (ps := ["web"]) fun _ _ _ _ _ _ us hl => match us, hl with | [_], _ => rfl
  have F15 := fun_mk (st := s_node) l15 c15 k15
  have B15 := F15.binds (ps := ["_law_node_here"]) fun _ _ _ _ _ _ us hl => match us, hl with | [_], _ => rfl
  have F16 := fun_mk (st := s_text) l16 c16 k16
  have B16 := F16.binds (ps := ["_law_web_here"]) fun _ _ _ _ _ _ us hl => match us, hl with | [_], _ => rfl
  have F17 := fun_mk (st := s_show_program) l17 c17 k17
  have B17 := F17.binds (ps := ["program"]) fun _ _ _ _ _ _ us hl => match us, hl with | [_], _ => rfl
  have F18 := fun_mk (st := s_read_mark) l18 c18 k18
  have B18 := F18.binds (ps := ["op", "word"]) fun _ _ _ _ _ _ us hl => match us, hl with | [_, _], _ => rfl
  have F19 := fun_mk (st := s_read_node) l19 c19 k19
  have B19 := F19.binds (ps := ["text"]) fun _ _ _ _ _ _ us hl => match us, hl with | [_], _ => rfl
  have F20 := fun_mk (st := s_web_in) l20 c20 k20
  have B20 := F20.binds (ps := ["line"]) fun _ _ _ _ _ _ us hl => match us, hl with | [_], _ => rfl
  have F21 := fun_mk (st := s_read_web) l21 c21 k21
  have B21 := F21.binds (ps := ["text"]) fun _ _ _ _ _ _ us hl => match us, hl with | [_], _ => rfl
  have F22 := fun_mk (st := s_read_program) l22 c22 k22
  have B22 := F22.binds (ps := ["text"]) fun _ _ _ _ _ _ us hl => match us, hl with | [_], _ => rfl
  have F23 := fun_mk (st := s_law) l23 c23 k23
  refine ⟨PySem.W.fnOf "law" "law" (defArgs s_law) (defBody s_law) (defScope s_law) .none kV23 dc23 pm23 an23 cd23 ct23, fun s v => .of_eq rfl, fun base _ _ => ?_⟩
  have P1 := ok_bag (P := l.prog) (w := w) (base := base) F1 B GG 
  have P2 := ok_take (P := l.prog) (w := w) (base := base) F2 B GG 
  have P3 := ok_leaf (P := l.prog) (w := w) (base := base) F3 B GG P2 (PySem.W.mg_of X G a2) k2 B2
  have P4 := ok_web (P := l.prog) (w := w) (base := base) F4 B GG P2 (PySem.W.mg_of X G a2) k2 B2 P3 (PySem.W.mg_of X G a3) k3 B3
  have P5 := ok_is_whole (P := l.prog) (w := w) (base := base) F5 B GG 
  have P6 := ok_is_word (P := l.prog) (w := w) (base := base) F6 B GG P5 (PySem.W.mg_of X G a5) k5 B5 bd2_5 dv2_5
  have P7 := ok_is_name (P := l.prog) (w := w) (base := base) F7 B GG 
  have P8 := ok_is_mark (P := l.prog) (w := w) (base := base) F8 B GG P6 (PySem.W.mg_of X G a6) k6 B6 P7 (PySem.W.mg_of X G a7) k7 B7
  have P9 := ok_is_node (P := l.prog) (w := w) (base := base) F9 B GG P8 (PySem.W.mg_of X G a8) k8 B8 P5 (PySem.W.mg_of X G a5) k5 B5 bd2_5 dv2_5
  have P10 := ok_all_kids (P := l.prog) (w := w) (base := base) F10 B GG 
  have P11 := ok_is_web (P := l.prog) (w := w) (base := base) F11 B GG P9 (PySem.W.mg_of X G a9) k9 B9 P10 (PySem.W.mg_of X G a10) k10 B10
  have P12 := ok_plain_number (P := l.prog) (w := w) (base := base) F12 B GG 
  have P13 := ok_show_node (P := l.prog) (w := w) (base := base) F13 B GG 
  have P14 := ok_show_web (P := l.prog) (w := w) (base := base) F14 B GG P13 (PySem.W.mg_of X G a13) k13 B13
  have P15 := ok_node (P := l.prog) (w := w) (base := base) F15 B GG 
  have P16 := ok_text (P := l.prog) (w := w) (base := base) F16 B GG P15 (PySem.W.mg_of X G a15) k15 B15
  have P17 := ok_show_program (P := l.prog) (w := w) (base := base) F17 B GG P14 (PySem.W.mg_of X G a14) k14 B14
  have P18 := ok_read_mark (P := l.prog) (w := w) (base := base) F18 B GG P12 (PySem.W.mg_of X G a12) k12 B12
  have P19 := ok_read_node (P := l.prog) (w := w) (base := base) F19 B GG P18 (PySem.W.mg_of X G a18) k18 B18 P12 (PySem.W.mg_of X G a12) k12 B12
  have P20 := ok_web_in (P := l.prog) (w := w) (base := base) F20 B GG P19 (PySem.W.mg_of X G a19) k19 B19 P11 (PySem.W.mg_of X G a11) k11 B11
  have P21 := ok_read_web (P := l.prog) (w := w) (base := base) F21 B GG P20 (PySem.W.mg_of X G a20) k20 B20
  have P22 := ok_read_program (P := l.prog) (w := w) (base := base) F22 B GG P20 (PySem.W.mg_of X G a20) k20 B20
  exact ok_law (P := l.prog) (w := w) (base := base) F23 B GG P1 (PySem.W.mg_of X G a1) k1 B1 P16 (PySem.W.mg_of X G a16) k16 B16 P22 (PySem.W.mg_of X G a22) k22 B22 P17 (PySem.W.mg_of X G a17) k17 B17 P2 (PySem.W.mg_of X G a2) k2 B2 P4 (PySem.W.mg_of X G a4) k4 B4 P21 (PySem.W.mg_of X G a21) k21 B21 P14 (PySem.W.mg_of X G a14) k14 B14
theorem walk {l : PySem.W.OpenLaw} {q : Program} {loose : List Str} {XP : (Str → Option Value) → Heap → Prop} {YP : World → Heap → Prop} {d : DefRec} {K : Params → PySem.W.Frag} (hn : l.most = some 63) (hdf : d.params.defaults = [])
    (hY : ∀ (w : World) (h : Heap), YP w h → (K w.params).In h)
    (F : ∀ (w : World) (mg : Str → Option Value) (fa : Addr) (h : Heap), (K w.params).In h → h.Ns mainGlobals mg → mg d.name = some (.ref fa) →
      ∃ fd : FuncData, (∀ (s : Shared) (u : Value), BindsTo s fd ⟨[u], []⟩ [("_law_script", u)]) ∧ ∀ base : Heap, (K w.params).In base → base.Ns mainGlobals mg → GnOk l.prog w (K w.params) mg base CX0 8 fa fd ["_law_script"] (liftSp (spLaw (K w.params)))) :
    PySem.W.WalkO q loose XP YP l.row.toRowW d [] (fun f vs => PySem.call f vs) :=
  DL.walk_ofG (n := 63) (k := 8) (x := "_law_script") (CX := CX0) (sp := fun K => liftSp (spLaw K)) hn (by decide) hdf ⟨rfl, by decide, by decide⟩ hY F (fun _ _ a ns hl _ hS => law_start hl hS) fun _ _ _ _ z => z
end K71
open PySem PySem.W PyProof.Rows
set_option maxRecDepth 100000 in
set_option maxHeartbeats 0 in
theorem PySem.Challenge.cw_coverrows_k71_webs_written_holds : PySem.Challenge.rw_coverrows_k71_webs_written.Holds := by
  w_on; o_law; k_head; (case hw => w_witness2)
  k_fill
  refine K71.walk (l := PySem.Challenge.rw_coverrows_k71_webs_written) rfl rfl (fun w h Y => PySem.W.kIn_of Y) ?F
  case F =>
    intro w mg fa h KX G hmg
    refine' K71.all_mk KX G hmg ?a1 ?l1 ?c1 ?k1 ?a2 ?l2 ?c2 ?k2 ?a3 ?l3 ?c3 ?k3 ?a4 ?l4 ?c4 ?k4 ?a5 ?l5 ?c5 ?k5 ?t5 ?q5 ?a6 ?l6 ?c6 ?k6 ?a7 ?l7 ?c7 ?k7 ?a8 ?l8 ?c8 ?k8 ?a9 ?l9 ?c9 ?k9 ?a10 ?l10 ?c10 ?k10 ?a11 ?l11 ?c11 ?k11 ?a12 ?l12 ?c12 ?k12 ?a13 ?l13 ?c13 ?k13 ?a14 ?l14 ?c14 ?k14 ?a15 ?l15 ?c15 ?k15 ?a16 ?l16 ?c16 ?k16 ?a17 ?l17 ?c17 ?k17 ?a18 ?l18 ?c18 ?k18 ?a19 ?l19 ?c19 ?k19 ?a20 ?l20 ?c20 ?k20 ?a21 ?l21 ?c21 ?k21 ?a22 ?l22 ?c22 ?k22 ?a23 ?l23 ?c23 ?k23 ?b_abs ?b_len ?b_max ?b_min ?b_int ?b_list ?b_tuple ?b_range ?b_isinstance ?b_all ?b_any ?b_str ?b_set ?b_enumerate ?b_bool ?v_BETWEEN ?v_DEEDS ?wl_DEEDS ?wq_DEEDS ?v_FIGURES ?v_KIDS ?wl_KIDS ?wk_KIDS ?ws_KIDS ?wq_KIDS ?v_LEAST_NODES ?v_LETTERS ?v_MARKS ?wl_MARKS ?wk_MARKS ?ws_MARKS ?wq_MARKS ?v_MOST_FIGURES ?v_MOST_LETTERS ?v_MOST_LINES ?v_MOST_NODES ?v_MOST_WORD
    (case a1 => k_is)
    (case l1 => k_is)
    (case c1 => k_is)
    (case k1 => k_is)
    (case a2 => k_is)
    (case l2 => k_is)
    (case c2 => k_is)
    (case k2 => k_is)
    (case a3 => k_is)
    (case l3 => k_is)
    (case c3 => k_is)
    (case k3 => k_is)
    (case a4 => k_is)
    (case l4 => k_is)
    (case c4 => k_is)
    (case k4 => k_is)
    (case a5 => k_is)
    (case l5 => k_is)
    (case c5 => k_is)
    (case k5 => k_is)
    (case t5 => k_is)
    (case q5 => rfl)
    (case a6 => k_is)
    (case l6 => k_is)
    (case c6 => k_is)
    (case k6 => k_is)
    (case a7 => k_is)
    (case l7 => k_is)
    (case c7 => k_is)
    (case k7 => k_is)
    (case a8 => k_is)
    (case l8 => k_is)
    (case c8 => k_is)
    (case k8 => k_is)
    (case a9 => k_is)
    (case l9 => k_is)
    (case c9 => k_is)
    (case k9 => k_is)
    (case a10 => k_is)
    (case l10 => k_is)
    (case c10 => k_is)
    (case k10 => k_is)
    (case a11 => k_is)
    (case l11 => k_is)
    (case c11 => k_is)
    (case k11 => k_is)
    (case a12 => k_is)
    (case l12 => k_is)
    (case c12 => k_is)
    (case k12 => k_is)
    (case a13 => k_is)
    (case l13 => k_is)
    (case c13 => k_is)
    (case k13 => k_is)
    (case a14 => k_is)
    (case l14 => k_is)
    (case c14 => k_is)
    (case k14 => k_is)
    (case a15 => k_is)
    (case l15 => k_is)
    (case c15 => k_is)
    (case k15 => k_is)
    (case a16 => k_is)
    (case l16 => k_is)
    (case c16 => k_is)
    (case k16 => k_is)
    (case a17 => k_is)
    (case l17 => k_is)
    (case c17 => k_is)
    (case k17 => k_is)
    (case a18 => k_is)
    (case l18 => k_is)
    (case c18 => k_is)
    (case k18 => k_is)
    (case a19 => k_is)
    (case l19 => k_is)
    (case c19 => k_is)
    (case k19 => k_is)
    (case a20 => k_is)
    (case l20 => k_is)
    (case c20 => k_is)
    (case k20 => k_is)
    (case a21 => k_is)
    (case l21 => k_is)
    (case c21 => k_is)
    (case k21 => k_is)
    (case a22 => k_is)
    (case l22 => k_is)
    (case c22 => k_is)
    (case k22 => k_is)
    (case a23 => k_is)
    (case l23 => k_is)
    (case c23 => k_is)
    (case k23 => k_is)
    (case b_abs => k_is)
    (case b_len => k_is)
    (case b_max => k_is)
    (case b_min => k_is)
    (case b_int => k_is)
    (case b_list => k_is)
    (case b_tuple => k_is)
    (case b_range => k_is)
    (case b_isinstance => k_is)
    (case b_all => k_is)
    (case b_any => k_is)
    (case b_str => k_is)
    (case b_set => k_is)
    (case b_enumerate => k_is)
    (case b_bool => k_is)
    (case v_BETWEEN => k_is)
    (case v_DEEDS => k_is)
    (case wl_DEEDS => k_is)
    (case wq_DEEDS => rfl)
    (case v_FIGURES => k_is)
    (case v_KIDS => k_is)
    (case wl_KIDS => k_is)
    (case wk_KIDS => repeat (first | exact True.intro | refine ⟨⟨_, _, rfl, rfl⟩, ?_⟩))
    (case ws_KIDS => rfl)
    (case wq_KIDS => rfl)
    (case v_LEAST_NODES => k_is)
    (case v_LETTERS => k_is)
    (case v_MARKS => k_is)
    (case wl_MARKS => k_is)
    (case wk_MARKS => repeat (first | exact True.intro | refine ⟨⟨_, _, rfl, rfl⟩, ?_⟩))
    (case ws_MARKS => rfl)
    (case wq_MARKS => rfl)
    (case v_MOST_FIGURES => k_is)
    (case v_MOST_LETTERS => k_is)
    (case v_MOST_LINES => k_is)
    (case v_MOST_NODES => k_is)
    (case v_MOST_WORD => k_is)
#print axioms PySem.Challenge.cw_coverrows_k71_webs_written_holds
