import PyProof.Rows.All
import Wide.All
import OpenK.AllK
import Wide.FinOn
import HandS.ForMost
import HandS.Exc
import HandS.TryMany
import HandS.WordsExc
import HandS.CallSlots
import HandS.Wide
import HandS.Style
import HandS.Flow
import HandS.Defaults
import HandS.Property
import HandS.ExcInit
import HandS.ClsMeth
import HandS.IsInst
import HandS.Deep
import HandS.TupAny
import HandS.RaiseMore
import KE.KOpsOwn
import KE.KStateDown
import HandS.Ends
import HandS.EndBits
import HandS.Head0
import HandS.Head1
import HandS.Head2
import HandS.HeadHook1
import HandS.HeadHook2
import HandS.HeadHook3
import PyProof.InstEq
import HandS.NoneIn
import HandS.List
import HandS.SortInts
import PyProof.LongRange
import PyProof.Rows.IntMath
import HandS.Iter
import HandS.Zip
import HandS.Strs
import HandS.SetFor
import HandS.Conv
import HandS.ExcBuiltin
import HandS.Dict
import PySem.Challenge.RW_loopwalks_k08_moments_made
set_option Elab.async false
set_option linter.all false
set_option maxRecDepth 100000
set_option maxHeartbeats 0
/-! Lw: Python values as trees over a store of cells, and what simulates them in the layer HandS. -/
namespace Lw
open PySem PySem.Spec PyProof.Rows L2

/-- a value: tuples are trees, a mutable object is a cell of the store -/
inductive D where
  | non | bl (b : Bool) | int (i : Int) | str (s : Str) | tup (ds : List D) | ref (n : Nat) | nm (x : Str) | adr (a : Addr)
  deriving Inhabited

/-- a cell of the store -/
inductive O where
  | lst (ds : List D)
  | frz (ds : List D)
  | ins (c : Str) (fs : List (Str × D))
  | dic (kvs : List (D × D))
  | nil
  deriving Inhabited

/-- an exception: its class by the module's name, its fields -/
structure Exc where
  c : Str
  fs : List (Str × D)

abbrev Sto := List O
abbrev Sg := List (Option D)
abbrev QD := D → Sto → Prop
abbrev QX := Exc → Sto → Prop
abbrev ME := Sg → Sto → QD → QX → Prop
abbrev MA := Sg → Sto → (List D → Sto → Prop) → QX → Prop
abbrev MT := Sg → Sto → (Bool → Sto → Prop) → QX → Prop
structure MEnds where
  nx : Sg → Sto → Prop
  rt : QD
  bk : Sg → Sto → Prop
  ct : Sg → Sto → Prop
  ex : Exc → Sg → Sto → Prop
abbrev MS := MEnds → Sg → Sto → Prop

/-! ### the simulation -/
abbrev Mg := Str → Option Value
section
variable (K : PySem.W.Frag) (mg : Mg) (r : List Addr) (H : Hp)
mutual
inductive RelD : D → V → Prop
  | non : RelD .non .non
  | bl (b : Bool) : RelD (.bl b) (.bl b)
  | int (i : Int) : RelD (.int i) (.int i)
  | str (s : Str) : RelD (.str s) (.str s)
  | tup {ds : List D} {a : Addr} {vs : List V} (h : SqT K H a vs) (q : RelDs ds vs) : RelD (.tup ds) (.ref a)
  | ref {n : Nat} {a : Addr} (h : r[n]? = some a) : RelD (.ref n) (.ref a)
  | nm {x : Str} {a : Addr} (h : mg x = some (.ref a)) : RelD (.nm x) (.ref a)
  | adr (a : Addr) : RelD (.adr a) (.ref a)
inductive RelDs : List D → List V → Prop
  | nil : RelDs [] []
  | cons {d : D} {v : V} {ds : List D} {vs : List V} (h : RelD d v) (q : RelDs ds vs) : RelDs (d :: ds) (v :: vs)
end
inductive RelFs : List (Str × D) → List (Str × V) → Prop
  | nil : RelFs [] []
  | cons {f : Str} {d : D} {v : V} {ds : List (Str × D)} {vs : List (Str × V)} (h : RelD K mg r H d v) (q : RelFs ds vs) : RelFs ((f, d) :: ds) ((f, v) :: vs)
/-- what stands at an address for a cell -/
inductive RelO : O → Addr → Prop
  | dic {kvs : List (D × D)} {ks : List (Int × Int)} {a : Addr} (e : kvs = ks.map fun p => (D.int p.1, D.int p.2)) (h : H a = some (.dK (ks.map fun p => (Sum.inl p.1, V.int p.2)))) : RelO (.dic kvs) a
  | lst {ds : List D} {a : Addr} {vs : List V} (h : H a = some (.lst vs)) (q : RelDs K mg r H ds vs) : RelO (.lst ds) a
  | frz {ds : List D} {a : Addr} {o : Obj} {vs : List V} (h : H a = some (.frz o (.lst vs))) (q : RelDs K mg r H ds vs) : RelO (.frz ds) a
  | ins {c : Str} {fs : List (Str × D)} {a C dx : Addr} {vs : List (Str × V)} (h : H a = some (.ins C dx vs)) (hd : H dx = some (.own a)) (hc : mg c = some (.ref C)) (q : RelFs K mg r H fs vs) : RelO (.ins c fs) a
structure Sim (S : Sto) : Prop where
  len : r.length = S.length
  nd : r.Nodup
  obj : ∀ (n : Nat) (o : O) (a : Addr), S[n]? = some o → r[n]? = some a → RelO K mg r H o a
structure RelG (sd : Sg) (s : L2.St) : Prop where
  len : sd.length = s.length
  at_ : ∀ (i : Nat) (d : D), sd[i]? = some (some d) → ∃ v, s[i]? = some (some v) ∧ RelD K mg r H d v
/-- an exception as it lies -/
inductive RelX : Exc → Value → Option Addr → Prop
  | own0 {c : Str} {C : Addr} {d : Option Addr} (hc : mg c = some (.ref C)) : RelX ⟨c, []⟩ (.ref C) d
  | own {c : Str} {C a : Addr} {fs : List (Str × D)} {vs : List (Str × V)} (hc : mg c = some (.ref C)) (hd : H a = some (.xd vs)) (q : RelFs K mg r H fs vs) : RelX ⟨c, fs⟩ (.ref C) (some a)
  | blt {c : String} {d : Option Addr} (hm : mg (Str.ofString c) = none) : RelX ⟨Str.ofString c, []⟩ (.type c) d
end
/-- cells keep their places, tuples, frozen things, dicts of exceptions stand -/
structure Wk (r : List Addr) (H : Hp) (r' : List Addr) (H' : Hp) : Prop where
  ext : ∀ (n : Nat) (a : Addr), r[n]? = some a → r'[n]? = some a
  tup : ∀ (a : Addr) (xs : List V), H a = some (.tup xs) → H' a = some (.tup xs)
  frz : ∀ (a : Addr) (o : Obj) (u : HO), H a = some (.frz o u) → H' a = some (.frz o u)
  xd : ∀ (a : Addr) (fs : List (Str × V)), H a = some (.xd fs) → H' a = some (.xd fs)
/-- how the abstract heap goes on: .. and all that is no cell stands -/
structure Stp (r : List Addr) (H : Hp) (r' : List Addr) (H' : Hp) : Prop extends Wk r H r' H' where
  new : ∀ a ∈ r', a ∉ r → H a = none
  out : ∀ (a : Addr) (o : HO), H a = some o → a ∉ r → H' a = some o
section
variable {K : PySem.W.Frag} {mg : Mg} {r r' r'' : List Addr} {H H' H'' : Hp}
theorem Wk.refl : Wk r H r H := ⟨fun _ _ h => h, fun _ _ h => h, fun _ _ _ h => h, fun _ _ h => h⟩
theorem Stp.refl : Stp r H r H := ⟨.refl, fun _ h n => absurd h n, fun _ _ h _ => h⟩
theorem Stp.sub (x : Stp r H r' H') : ∀ a ∈ r, a ∈ r' := fun a h => by
  obtain ⟨n, hn⟩ := List.mem_iff_getElem?.mp h
  exact List.mem_iff_getElem?.mpr ⟨n, x.ext n a hn⟩
theorem Wk.trans (x : Wk r H r' H') (y : Wk r' H' r'' H'') : Wk r H r'' H'' :=
  ⟨fun n a h => y.ext n a (x.ext n a h), fun a xs h => y.tup a xs (x.tup a xs h), fun a o u h => y.frz a o u (x.frz a o u h), fun a fs h => y.xd a fs (x.xd a fs h)⟩
theorem Stp.trans (x : Stp r H r' H') (y : Stp r' H' r'' H'') : Stp r H r'' H'' where
  toWk := x.toWk.trans y.toWk
  new := fun a h n => by
    by_cases q : a ∈ r'
    · exact x.new a q n
    · cases e : H a with
      | none => rfl
      | some o =>
        have z := y.new a h q
        rw [x.out a o e n] at z
        cases z
  out := fun a o h n => by
    by_cases q : a ∈ r'
    · have z := x.new a q n
      rw [h] at z; cases z
    · exact y.out a o (x.out a o h n) q
theorem Wk.sqT (x : Wk r H r' H') {a : Addr} {xs : List V} (h : SqT K H a xs) : SqT K H' a xs := by
  rcases h with (h | ⟨o, h⟩) | h
  · exact .inl (.inl (x.tup _ _ h))
  · exact .inl (.inr ⟨o, x.frz _ _ _ h⟩)
  · exact .inr h
theorem Stp.sqT (x : Stp r H r' H') {a : Addr} {xs : List V} (h : SqT K H a xs) : SqT K H' a xs := x.toWk.sqT h
mutual
theorem RelD.monoW (x : Wk r H r' H') : ∀ {d : D} {v : V}, RelD K mg r H d v → RelD K mg r' H' d v
  | _, _, .non => .non
  | _, _, .bl b => .bl b
  | _, _, .int i => .int i
  | _, _, .str s => .str s
  | _, _, .tup h q => .tup (x.sqT h) (RelDs.monoW x q)
  | _, _, .ref h => .ref (x.ext _ _ h)
  | _, _, .nm h => .nm h
  | _, _, .adr a => .adr a
theorem RelDs.monoW (x : Wk r H r' H') : ∀ {ds : List D} {vs : List V}, RelDs K mg r H ds vs → RelDs K mg r' H' ds vs
  | _, _, .nil => .nil
  | _, _, .cons h q => .cons (RelD.monoW x h) (RelDs.monoW x q)
end
theorem RelFs.monoW (x : Wk r H r' H') {fs : List (Str × D)} {vs : List (Str × V)} (h : RelFs K mg r H fs vs) : RelFs K mg r' H' fs vs := by
  induction h with
  | nil => exact .nil
  | cons h _ ih => exact .cons (h.monoW x) ih
theorem RelD.mono (x : Stp r H r' H') {d : D} {v : V} (h : RelD K mg r H d v) : RelD K mg r' H' d v := h.monoW x.toWk
theorem RelDs.mono (x : Stp r H r' H') {ds : List D} {vs : List V} (h : RelDs K mg r H ds vs) : RelDs K mg r' H' ds vs := h.monoW x.toWk
theorem RelFs.mono (x : Stp r H r' H') {fs : List (Str × D)} {vs : List (Str × V)} (h : RelFs K mg r H fs vs) : RelFs K mg r' H' fs vs := h.monoW x.toWk
theorem RelG.mono (x : Stp r H r' H') {sd : Sg} {s : L2.St} (h : RelG K mg r H sd s) : RelG K mg r' H' sd s :=
  ⟨h.len, fun i d e => let ⟨v, e', q⟩ := h.at_ i d e; ⟨v, e', q.mono x⟩⟩
theorem RelX.mono (x : Stp r H r' H') {e : Exc} {c : Value} {d : Option Addr} (h : RelX K mg r H e c d) : RelX K mg r' H' e c d := by
  cases h with
  | own0 hc => exact .own0 hc
  | own hc hd q => exact .own hc (x.xd _ _ hd) (q.mono x)
  | blt hm => exact .blt hm
theorem RelDs.length {ds : List D} {vs : List V} (h : RelDs K mg r H ds vs) : ds.length = vs.length := by
  match ds, vs, h with
  | _, _, .nil => rfl
  | _, _, .cons _ q => simp [q.length]
theorem RelDs.get : ∀ {ds : List D} {vs : List V} {i : Nat} {d : D}, RelDs K mg r H ds vs → ds[i]? = some d → ∃ v, vs[i]? = some v ∧ RelD K mg r H d v
  | _, _, _, _, .nil, e => by simp at e
  | _, _, 0, _, .cons h _, e => by simp at e; subst e; exact ⟨_, rfl, h⟩
  | _, _, i + 1, _, .cons _ q, e => by
    obtain ⟨v, h1, h2⟩ := RelDs.get (i := i) q (by simpa using e)
    exact ⟨v, by simpa using h1, h2⟩
theorem RelDs.append : ∀ {ds es : List D} {vs ws : List V}, RelDs K mg r H ds vs → RelDs K mg r H es ws → RelDs K mg r H (ds ++ es) (vs ++ ws)
  | _, _, _, _, .nil, s => s
  | _, _, _, _, .cons h q, s => .cons h (RelDs.append q s)
/-- what may stand at a cell's address -/
def isCell : HO → Bool
  | .tup _ | .xd _ | .own _ => false
  | _ => true
theorem RelO.cell {o : O} {a : Addr} (h : RelO K mg r H o a) : ∃ u, H a = some u ∧ isCell u = true := by
  cases h with
  | lst h _ => exact ⟨_, h, rfl⟩
  | frz h _ => exact ⟨_, h, rfl⟩
  | ins h _ _ _ => exact ⟨_, h, rfl⟩
  | dic _ h => exact ⟨_, h, rfl⟩
theorem Sim.cell_at {S : Sto} (x : Sim K mg r H S) {a : Addr} (h : a ∈ r) : ∃ u, H a = some u ∧ isCell u = true := by
  obtain ⟨n, hn⟩ := List.mem_iff_getElem?.mp h
  have hl : n < r.length := (List.getElem?_eq_some_iff.mp hn).1
  rw [x.len] at hl
  exact (x.obj n S[n] a (List.getElem?_eq_getElem hl) hn).cell
theorem Sim.mem_some {S : Sto} (x : Sim K mg r H S) {a : Addr} (h : a ∈ r) : ∃ o, H a = some o :=
  let ⟨u, e, _⟩ := x.cell_at h
  ⟨u, e⟩
theorem Sim.not_cell {S : Sto} (x : Sim K mg r H S) {a : Addr} {o : HO} (h : H a = some o) (c : isCell o = false) : a ∉ r := fun q => by
  obtain ⟨u, e, d⟩ := x.cell_at q
  rw [h] at e; cases e
  rw [c] at d; cases d
theorem Sim.fresh {S : Sto} (x : Sim K mg r H S) {a : Addr} (h : H a = none) : a ∉ r := fun q => by
  obtain ⟨o, e⟩ := x.mem_some q
  rw [h] at e; cases e
/-- a tuple is no cell -/
theorem Sim.no_tup {S : Sto} (x : Sim K mg r H S) {a : Addr} {xs : List V} (h : H a = some (.tup xs)) : a ∉ r := x.not_cell h rfl
theorem Sim.no_xd {S : Sto} (x : Sim K mg r H S) {a : Addr} (q : a ∈ r) (xs : List (Str × V)) : H a ≠ some (.xd xs) := fun h => x.not_cell h rfl q
theorem Sim.no_own {S : Sto} (x : Sim K mg r H S) {a : Addr} (q : a ∈ r) (c : Addr) : H a ≠ some (.own c) := fun h => x.not_cell h rfl q
theorem RelO.mono' (x : Wk r H r' H') {o : O} {a : Addr} (h : RelO K mg r H o a) (e : H' a = H a) (ed : ∀ dx, H dx = some (.own a) → H' dx = some (.own a)) : RelO K mg r' H' o a := by
  cases h with
  | lst h q => exact .lst (by rw [e]; exact h) (q.monoW x)
  | frz h q => exact .frz (by rw [e]; exact h) (q.monoW x)
  | ins h hd hc q => exact .ins (by rw [e]; exact h) (ed _ hd) hc (q.monoW x)
  | dic e1 h => exact .dic e1 (by rw [e]; exact h)
/-- laying a new thing that is no cell -/
theorem Stp.laid {p : Addr} {o : HO} (n : H p = none) : Stp r H r (upd H p o) :=
  ⟨⟨fun _ _ h => h, fun a xs h => by rw [upd_ne (ne_of_none h n)]; exact h, fun a u v h => by rw [upd_ne (ne_of_none h n)]; exact h, fun a fs h => by rw [upd_ne (ne_of_none h n)]; exact h⟩,
    fun _ h q => absurd h q, fun a u h _ => by rw [upd_ne (ne_of_none h n)]; exact h⟩
theorem Sim.laid {S : Sto} {p : Addr} {o : HO} (x : Sim K mg r H S) (n : H p = none) : Sim K mg r (upd H p o) S :=
  ⟨x.len, x.nd, fun i ob a h1 h2 => (x.obj i ob a h1 h2).mono' (Stp.laid n).toWk (upd_ne (fun e => by
      obtain ⟨u, hu⟩ := x.mem_some (List.mem_iff_getElem?.mpr ⟨i, h2⟩)
      rw [e, n] at hu; cases hu)) fun dx hd => by rw [upd_ne (ne_of_none hd n)]; exact hd⟩
/-- a new cell -/
theorem Stp.cell {p : Addr} {o : HO} (n : H p = none) : Stp r H (r ++ [p]) (upd H p o) :=
  ⟨⟨fun i a h => by
      have hl : i < r.length := (List.getElem?_eq_some_iff.mp h).1
      rw [List.getElem?_append_left hl]; exact h,
    fun a xs h => by rw [upd_ne (ne_of_none h n)]; exact h, fun a u v h => by rw [upd_ne (ne_of_none h n)]; exact h, fun a fs h => by rw [upd_ne (ne_of_none h n)]; exact h⟩,
    fun a h q => by
      rcases List.mem_append.mp h with h | h
      · exact absurd h q
      · have e : a = p := by simpa using h
        rw [e]; exact n,
    fun a u h _ => by rw [upd_ne (ne_of_none h n)]; exact h⟩
theorem Sim.cell {S : Sto} {p : Addr} {o : HO} {ob : O} (x : Sim K mg r H S) (n : H p = none) (h : RelO K mg (r ++ [p]) (upd H p o) ob p) : Sim K mg (r ++ [p]) (upd H p o) (S ++ [ob]) := by
  have hp := x.fresh n
  refine ⟨by simp [x.len], ?_, fun i oi a h1 h2 => ?_⟩
  · refine List.nodup_append.mpr ⟨x.nd, by simp, ?_⟩
    intro a ha b hb e
    have : b = p := by simpa using hb
    subst this; subst e
    exact hp ha
  · by_cases hl : i < S.length
    · have hl' : i < r.length := by rw [x.len]; exact hl
      rw [List.getElem?_append_left hl] at h1
      rw [List.getElem?_append_left hl'] at h2
      refine (x.obj i oi a h1 h2).mono' (Stp.cell n).toWk (upd_ne fun e => ?_) fun dx hd => by rw [upd_ne (ne_of_none hd n)]; exact hd
      exact hp (by rw [← e]; exact List.mem_iff_getElem?.mpr ⟨i, h2⟩)
    · have e : i = S.length := by
        have := (List.getElem?_eq_some_iff.mp h1).1
        simp at this; omega
      subst e
      rw [List.getElem?_append_right (Nat.le_refl _)] at h1
      rw [← x.len, List.getElem?_append_right (Nat.le_refl _)] at h2
      simp at h1 h2
      subst h1; subst h2
      exact h
/-- a cell is written -/
theorem Stp.write {S : Sto} {a : Addr} {o : HO} (x : Sim K mg r H S) (ha : a ∈ r) (nf : ∀ ob u, H a ≠ some (.frz ob u)) : Stp r H r (upd H a o) :=
  ⟨⟨fun _ _ h => h, fun b xs h => by rw [upd_ne (fun e => x.no_tup h (by rw [e]; exact ha))]; exact h, fun b u v h => by rw [upd_ne (fun e => nf u v (by rw [← e]; exact h))]; exact h,
    fun b fs h => by rw [upd_ne (fun e => x.no_xd ha fs (by rw [← e]; exact h))]; exact h⟩, fun _ h q => absurd h q, fun b u h q => by rw [upd_ne (fun e => q (by rw [e]; exact ha))]; exact h⟩
theorem Sim.write {S : Sto} {n : Nat} {a : Addr} {o : HO} {ob : O} (x : Sim K mg r H S) (hn : r[n]? = some a) (nf : ∀ ob u, H a ≠ some (.frz ob u)) (h : RelO K mg r (upd H a o) ob a) : Sim K mg r (upd H a o) (S.set n ob) := by
  have ha : a ∈ r := List.mem_iff_getElem?.mpr ⟨n, hn⟩
  have hl : n < r.length := (List.getElem?_eq_some_iff.mp hn).1
  refine ⟨by simp [x.len], x.nd, fun i oi b h1 h2 => ?_⟩
  by_cases hi : n = i
  · subst hi
    rw [hn] at h2; cases h2
    have hl2 : n < S.length := by rw [← x.len]; exact hl
    rw [List.getElem?_set_self hl2] at h1
    cases h1
    exact h
  · rw [List.getElem?_set_ne hi] at h1
    have hb : b ≠ a := fun e => by
      subst e
      exact hi ((List.getElem?_inj hl x.nd).mp (by rw [hn, h2]))
    refine (x.obj i oi b h1 h2).mono' (Stp.write x ha nf).toWk (upd_ne hb) fun dx hd => ?_
    rw [upd_ne (fun e => x.no_own ha b (by rw [← e]; exact hd))]
    exact hd
end
end Lw

namespace Lw
open PySem PySem.Spec PyProof.Rows L2

/-- a place of the code: the written part, the module's names, what holds besides, the wish about exceptions -/
structure Cn where
  K : PySem.W.Frag
  mg : Mg
  P : List Addr → Hp → Prop
  st : ∀ {r H r' H'}, Stp r H r' H' → P r H → P r' H'
  W : WX
abbrev Cx.cn (X : Cx) (W : WX) : Cn := ⟨X.K, X.mg, fun _ _ => True, fun _ _ => trivial, W⟩
abbrev Cn.Sm (c : Cn) (r : List Addr) (H : Hp) (S : Sto) : Prop := Sim c.K c.mg r H S
abbrev Cn.Rd (c : Cn) (r : List Addr) (H : Hp) (d : D) (v : V) : Prop := RelD c.K c.mg r H d v
abbrev Cn.Rs (c : Cn) (r : List Addr) (H : Hp) (d : List D) (v : List V) : Prop := RelDs c.K c.mg r H d v
abbrev Cn.Rx (c : Cn) (r : List Addr) (H : Hp) (e : Exc) (v : Value) (d : Option Addr) : Prop := RelX c.K c.mg r H e v d
/-- the state -/
structure At (c : Cn) (r : List Addr) (S : Sto) (sd : Sg) (s : L2.St) (H : Hp) : Prop where
  sim : c.Sm r H S
  rel : RelG c.K c.mg r H sd s
  hyp : c.P r H
theorem At.step {c : Cn} {r r' : List Addr} {S S' : Sto} {sd : Sg} {s : L2.St} {H H' : Hp} (a : At c r S sd s H) (x : Stp r H r' H') (m : c.Sm r' H' S') : At c r' S' sd s H' :=
  ⟨m, a.rel.mono x, c.st x a.hyp⟩
def GoX (c : Cn) (r : List Addr) (H : Hp) (s : L2.St) (x : QX) : Prop :=
  ∀ e S' r' H' cls dd, x e S' → Stp r H r' H' → c.Sm r' H' S' → c.Rx r' H' e cls dd → c.W cls dd s H'
def GoV (c : Cn) (r : List Addr) (H : Hp) (q : QD) (Q : VK) : Prop :=
  ∀ d S' r' v H', q d S' → Stp r H r' H' → c.Sm r' H' S' → c.Rd r' H' d v → Q v H'
section
variable {c : Cn} {r r' : List Addr} {H H' : Hp} {s : L2.St} {x : QX} {q : QD} {Q : VK}
theorem GoX.step (g : GoX c r H s x) (t : Stp r H r' H') : GoX c r' H' s x := fun e S' r2 H2 cls dd h t2 => g e S' r2 H2 cls dd h (t.trans t2)
theorem GoV.step (g : GoV c r H q Q) (t : Stp r H r' H') : GoV c r' H' q Q := fun e S' r2 H2 v h t2 => g e S' r2 H2 v h (t.trans t2)
end
def tE (c : Cn) (m : ME) : TE := fun s H Q => ∃ r S sd q x, At c r S sd s H ∧ m sd S q x ∧ GoV c r H q Q ∧ GoX c r H s x
def tA (c : Cn) (m : MA) : TA := fun s H Q => ∃ r S sd q x, At c r S sd s H ∧ m sd S q x ∧ (∀ ds S' r' vs H', q ds S' → Stp r H r' H' → c.Sm r' H' S' → c.Rs r' H' ds vs → Q vs H') ∧ GoX c r H s x
def tT (c : Cn) (m : MT) : TT := fun s H Q => ∃ r S sd q x, At c r S sd s H ∧ m sd S q x ∧ (∀ b S' r' H', q b S' → Stp r H r' H' → c.Sm r' H' S' → Q b H') ∧ GoX c r H s x
/-- what lies behind a statement -/
structure EOk (c : Cn) (r : List Addr) (H : Hp) (md : MEnds) (D : Ends) : Prop where
  nx : ∀ sd' S' r' s' H', md.nx sd' S' → Stp r H r' H' → c.Sm r' H' S' → RelG c.K c.mg r' H' sd' s' → D.nx s' H'
  rt : ∀ d S' r' v H', md.rt d S' → Stp r H r' H' → c.Sm r' H' S' → c.Rd r' H' d v → D.rt v H'
  bk : ∀ sd' S' r' s' H', md.bk sd' S' → Stp r H r' H' → c.Sm r' H' S' → RelG c.K c.mg r' H' sd' s' → D.bk s' H'
  ct : ∀ sd' S' r' s' H', md.ct sd' S' → Stp r H r' H' → c.Sm r' H' S' → RelG c.K c.mg r' H' sd' s' → D.ct s' H'
  ex : ∀ e sd' S' r' s' H' cls dd, md.ex e sd' S' → Stp r H r' H' → c.Sm r' H' S' → RelG c.K c.mg r' H' sd' s' → c.Rx r' H' e cls dd → c.W cls dd s' H'
theorem EOk.step {c : Cn} {r r' : List Addr} {H H' : Hp} {md : MEnds} {D : Ends} (e : EOk c r H md D) (t : Stp r H r' H') : EOk c r' H' md D :=
  ⟨fun a b r2 s2 H2 h t2 => e.nx a b r2 s2 H2 h (t.trans t2), fun a b r2 s2 H2 h t2 => e.rt a b r2 s2 H2 h (t.trans t2), fun a b r2 s2 H2 h t2 => e.bk a b r2 s2 H2 h (t.trans t2),
    fun a b r2 s2 H2 h t2 => e.ct a b r2 s2 H2 h (t.trans t2), fun o a b r2 s2 H2 cl dd h t2 => e.ex o a b r2 s2 H2 cl dd h (t.trans t2)⟩
def tS (c : Cn) (m : MS) : TS := fun D s H => ∃ r S sd md, At c r S sd s H ∧ m md sd S ∧ EOk c r H md D

/-! ### expressions -/
def mVar (i : Nat) : ME := fun sd S q _ => match sd[i]? with
  | some (some d) => q d S
  | _ => False
def mC (d : D) : ME := fun _ S q _ => q d S
section
variable {X : Cx} {c : Cn} {m ma mb : ME} {a b e : Expr} {es : List Expr} {mr : MA} {pos : Pos}
theorem weakE {t t' : TE} (h : PE X e t) (w : ∀ s H Q, t' s H Q → t s H Q) : PE X e t' := ⟨fun pins s o H Q I q => h.run pins s o H Q I (w _ _ _ q)⟩
theorem weakA {t t' : TA} (h : PA X es t) (w : ∀ s H Q, t' s H Q → t s H Q) : PA X es t' := ⟨fun p pins s o H Q I q => h.run p pins s o H Q I (w _ _ _ q)⟩
theorem weakT {t t' : TT} (h : PT X e t) (w : ∀ s H Q, t' s H Q → t s H Q) : PT X e t' := ⟨fun pins s o H Q I q => h.run pins s o H Q I (w _ _ _ q)⟩
theorem weakW {t t' : TT} (h : PW X e t) (w : ∀ s H Q, t' s H Q → t s H Q) : PW X e t' := ⟨fun wh pins s o H Q I q => h.run wh pins s o H Q I (w _ _ _ q)⟩
theorem weakS {st : Stmt} {t t' : TS} (h : PS X st t) (w : ∀ D s H, t' D s H → t D s H) : PS X st t' := ⟨fun pins s o H Q I q => h.run pins s o H Q I (w _ _ _ q)⟩
theorem weakSs {st : List Stmt} {t t' : TS} (h : PSs X st t) (w : ∀ D s H, t' D s H → t D s H) : PSs X st t' := ⟨fun pins s o H Q I q => h.run pins s o H Q I (w _ _ _ q)⟩

theorem me_var (i : Nat) (h : PE X e (tVar i)) : PE X e (tE c (mVar i)) := weakE h fun s H Q z => by
  obtain ⟨r, S, sd, q, x, a, hm, g, _⟩ := z
  unfold mVar at hm
  split at hm
  · rename_i d e
    obtain ⟨v, ev, rv⟩ := a.rel.at_ i d e
    exact ⟨v, ev, g d S r v H hm Stp.refl a.sim rv⟩
  · exact hm.elim
/-- a constant -/
theorem me_c {d : D} {v : V} (h : PE X e (tC v)) (rd : ∀ r H, c.Rd r H d v) : PE X e (tE c (mC d)) := weakE h fun s H Q z => by
  obtain ⟨r, S, sd, q, x, a, hm, g, _⟩ := z
  exact g d S r v H hm Stp.refl a.sim (rd r H)
theorem me_int {i : Int} {j : Nat} : PE X (.Constant (.int i) j pos) (tE c (mC (.int i))) := me_c pe_int fun _ _ => .int i
theorem me_bl {i : Bool} {j : Nat} : PE X (.Constant (.bool i) j pos) (tE c (mC (.bl i))) := me_c pe_bl fun _ _ => .bl i
theorem me_non {j : Nat} : PE X (.Constant .none j pos) (tE c (mC .non)) := me_c pe_non fun _ _ => .non
theorem me_str {z : Str} {j : Nat} : PE X (.Constant (.str z) j pos) (tE c (mC (.str z))) := me_c pe_str fun _ _ => .str z

/-! operators by values -/
abbrev MOp := D → D → Sto → QD → Prop
def rOp (c : Cn) (f : MOp) : R2 := fun v u H Q => ∃ r S d e q, c.Sm r H S ∧ c.Rd r H d v ∧ c.Rd r H e u ∧ f d e S q ∧ GoV c r H q Q
def mOp (f : MOp) (a b : ME) : ME := fun sd S q x => a sd S (fun d S1 => b sd S1 (fun e S2 => f d e S2 q) x) x
theorem op_two {R : R2} {f : MOp} (w : ∀ v u H Q, rOp c f v u H Q → R v u H Q) : ∀ s H Q, tE c (mOp f ma mb) s H Q → tOp R (tE c ma) (tE c mb) s H Q := fun s H Q z => by
  obtain ⟨r, S, sd, q, x, a, hm, g, gx⟩ := z
  refine ⟨r, S, sd, _, x, a, hm, fun d S1 r1 v H1 h1 t1 s1 rd1 => ?_, gx⟩
  refine ⟨r1, S1, sd, _, x, a.step t1 s1, h1, fun e S2 r2 u H2 h2 t2 s2 rd2 => ?_, gx.step t1⟩
  exact w _ _ _ _ ⟨r2, S2, d, e, q, s2, rd1.mono t2, rd2, h2, (g.step t1).step t2⟩
/-- a rule of the values for a place c -/
structure OpM (X : Cx) (c : Cn) (f : Value → Value → Sem Value) (g : MOp) : Prop where
  ok : ∃ R, OpR X f R ∧ ∀ v u H Q, rOp c g v u H Q → R v u H Q
theorem me_op {op : Operator} {f : MOp} (h : OpM X c (binaryOp op) f) (ha : PE X a (tE c ma)) (hb : PE X b (tE c mb)) : PE X (.BinOp a op b pos) (tE c (mOp f ma mb)) := by
  obtain ⟨R, ho, w⟩ := h.ok
  exact weakE (pe_op ho ha hb) (op_two w)
theorem me_cmp {op : CmpOp} {f : MOp} (h : OpM X c (compareOp op) f) (ha : PE X a (tE c ma)) (hb : PE X b (tE c mb)) (hm : behindInMarks op b = false) : PE X (.Compare a [op] [b] pos) (tE c (mOp f ma mb)) := by
  obtain ⟨R, ho, w⟩ := h.ok
  exact weakE (pe_cmpR ho ha hb hm) (op_two w)
/-- a test by a value that is a bool -/
def mtB (m : ME) : MT := fun sd S q x => m sd S (fun d S1 => match d with
  | .bl b => q b S1
  | _ => False) x
theorem test_of {t : TE} (w : ∀ s H Q, tE c m s H Q → t s H Q) : ∀ s H Q, tT c (mtB m) s H Q → tTest t s H Q := fun s H Q z => by
  obtain ⟨r, S, sd, q, x, a, hm, g, gx⟩ := z
  refine w _ _ _ ⟨r, S, sd, _, x, a, hm, fun d S1 r1 v H1 h1 t1 s1 rd1 => ?_, gx⟩
  cases rd1 with
  | bl b => exact ⟨b, rfl, g b S1 r1 H1 h1 t1 s1⟩
  | _ => exact h1.elim
theorem mt_cmp {op : CmpOp} {f : MOp} (h : OpM X c (compareOp op) f) (ha : PE X a (tE c ma)) (hb : PE X b (tE c mb)) (hm : behindInMarks op b = false) : PT X (.Compare a [op] [b] pos) (tT c (mtB (mOp f ma mb))) := by
  obtain ⟨R, ho, w⟩ := h.ok
  exact weakT (pt_cmpR ho ha hb hm) (test_of (op_two w))
theorem mt_val (h : PE X e (tE c m)) (he : ∀ whole, isTrue e X.env whole = (do let v ← whole; standAt e.pos; holding [v] (truthy v)) := by intro _; rfl) : PT X e (tT c (mtB m)) :=
  weakT (pt_val h he) (test_of fun _ _ _ z => z)
/-! and, or, not as tests -/
def mtAnd (a b : MT) : MT := fun sd S q x => a sd S (fun k S1 => if k = true then b sd S1 q x else q false S1) x
def mtOr (a b : MT) : MT := fun sd S q x => a sd S (fun k S1 => if k = true then q true S1 else b sd S1 q x) x
def mtNot (a : MT) : MT := fun sd S q x => a sd S (fun k S1 => q (!k) S1) x
variable {ta tb : MT} {rest : List Expr}
theorem mw_and1 (ha : PT X a (tT c ta)) : PW X (.BoolOp .And [a] pos) (tT c ta) := pw_and1 ha
theorem mw_or1 (ha : PT X a (tT c ta)) : PW X (.BoolOp .Or [a] pos) (tT c ta) := pw_or1 ha
theorem mw_and (ha : PT X a (tT c ta)) (hb : PW X (.BoolOp .And (b :: rest) pos) (tT c tb)) : PW X (.BoolOp .And (a :: b :: rest) pos) (tT c (mtAnd ta tb)) := weakW (pw_and ha hb) fun s H Q z => by
  obtain ⟨r, S, sd, q, x, a, hm, g, gx⟩ := z
  refine ⟨r, S, sd, _, x, a, hm, fun k S1 r1 H1 h1 t1 s1 => ?_, gx⟩
  cases k with
  | true => exact iteT ⟨r1, S1, sd, q, x, a.step t1 s1, h1, fun b S2 r2 H2 h2 t2 => g b S2 r2 H2 h2 (t1.trans t2), gx.step t1⟩
  | false => exact iteF (g false S1 r1 H1 h1 t1 s1)
theorem mw_or (ha : PT X a (tT c ta)) (hb : PW X (.BoolOp .Or (b :: rest) pos) (tT c tb)) : PW X (.BoolOp .Or (a :: b :: rest) pos) (tT c (mtOr ta tb)) := weakW (pw_or ha hb) fun s H Q z => by
  obtain ⟨r, S, sd, q, x, a, hm, g, gx⟩ := z
  refine ⟨r, S, sd, _, x, a, hm, fun k S1 r1 H1 h1 t1 s1 => ?_, gx⟩
  cases k with
  | false => exact iteF ⟨r1, S1, sd, q, x, a.step t1 s1, h1, fun b S2 r2 H2 h2 t2 => g b S2 r2 H2 h2 (t1.trans t2), gx.step t1⟩
  | true => exact iteT (g true S1 r1 H1 h1 t1 s1)
theorem mt_not (ha : PT X a (tT c ta)) : PT X (.UnaryOp .Not a pos) (tT c (mtNot ta)) := weakT (pt_not ha) fun s H Q z => by
  obtain ⟨r, S, sd, q, x, a, hm, g, gx⟩ := z
  exact ⟨r, S, sd, _, x, a, hm, fun k S1 r1 H1 h1 t1 s1 => g (!k) S1 r1 H1 h1 t1 s1, gx⟩
/-! the same as values -/
def mAnd (a b : ME) : ME := fun sd S q x => a sd S (fun d S1 => match d with
  | .bl k => if k = true then b sd S1 q x else q (.bl false) S1
  | _ => False) x
def mOr (a b : ME) : ME := fun sd S q x => a sd S (fun d S1 => match d with
  | .bl k => if k = true then q (.bl true) S1 else b sd S1 q x
  | _ => False) x
def mNot (a : MT) : ME := fun sd S q x => a sd S (fun k S1 => q (.bl (!k)) S1) x
def mIf (t : MT) (a b : ME) : ME := fun sd S q x => t sd S (fun k S1 => if k = true then a sd S1 q x else b sd S1 q x) x
theorem me_one {op : BoolOp} (ha : PE X a (tE c ma)) : PE X (.BoolOp op [a] pos) (tE c ma) := pe_one ha
theorem me_and (ha : PE X a (tE c ma)) (hb : PE X (.BoolOp .And (b :: rest) pos) (tE c mb)) : PE X (.BoolOp .And (a :: b :: rest) pos) (tE c (mAnd ma mb)) := weakE (pe_and ha hb) fun s H Q z => by
  obtain ⟨r, S, sd, q, x, a, hm, g, gx⟩ := z
  refine ⟨r, S, sd, _, x, a, hm, fun d S1 r1 v H1 h1 t1 s1 rd => ?_, gx⟩
  cases rd with
  | bl k =>
    refine ⟨k, rfl, ?_⟩
    cases k with
    | true => exact iteT ⟨r1, S1, sd, q, x, a.step t1 s1, h1, g.step t1, gx.step t1⟩
    | false => exact iteF (g _ S1 r1 _ H1 h1 t1 s1 (.bl false))
  | _ => exact h1.elim
theorem me_or (ha : PE X a (tE c ma)) (hb : PE X (.BoolOp .Or (b :: rest) pos) (tE c mb)) : PE X (.BoolOp .Or (a :: b :: rest) pos) (tE c (mOr ma mb)) := weakE (pe_or ha hb) fun s H Q z => by
  obtain ⟨r, S, sd, q, x, a, hm, g, gx⟩ := z
  refine ⟨r, S, sd, _, x, a, hm, fun d S1 r1 v H1 h1 t1 s1 rd => ?_, gx⟩
  cases rd with
  | bl k =>
    refine ⟨k, rfl, ?_⟩
    cases k with
    | false => exact iteF ⟨r1, S1, sd, q, x, a.step t1 s1, h1, g.step t1, gx.step t1⟩
    | true => exact iteT (g _ S1 r1 _ H1 h1 t1 s1 (.bl true))
  | _ => exact h1.elim
theorem me_ifx {t : Expr} (ht : PT X t (tT c ta)) (ha : PE X a (tE c ma)) (hb : PE X b (tE c mb)) : PE X (.IfExp t a b pos) (tE c (mIf ta ma mb)) := weakE (pe_ifExp ht ha hb) fun s H Q z => by
  obtain ⟨r, S, sd, q, x, a, hm, g, gx⟩ := z
  refine ⟨r, S, sd, _, x, a, hm, fun k S1 r1 H1 h1 t1 s1 => ?_, gx⟩
  cases k with
  | true => exact iteT ⟨r1, S1, sd, q, x, a.step t1 s1, h1, g.step t1, gx.step t1⟩
  | false => exact iteF ⟨r1, S1, sd, q, x, a.step t1 s1, h1, g.step t1, gx.step t1⟩
/-! argument lists, displays -/
def maNil : MA := fun _ S q _ => q [] S
def maCons (a : ME) (b : MA) : MA := fun sd S q x => a sd S (fun d S1 => b sd S1 (fun ds S2 => q (d :: ds) S2) x) x
theorem ma_nil : PA X [] (tA c maNil) := weakA pa_nil fun s H Q z => by
  obtain ⟨r, S, sd, q, x, a, hm, g, gx⟩ := z
  exact g [] S r [] H hm Stp.refl a.sim .nil
theorem ma_cons (ha : PE X e (tE c m)) (hr : PA X es (tA c mr)) (hs : starEach (e :: es) X.env = (false, eval e X.env) :: starEach es X.env := by rfl) : PA X (e :: es) (tA c (maCons m mr)) := weakA (pa_cons ha hr hs) fun s H Q z => by
  obtain ⟨r, S, sd, q, x, a, hm, g, gx⟩ := z
  refine ⟨r, S, sd, _, x, a, hm, fun d S1 r1 v H1 h1 t1 s1 rd1 => ?_, gx⟩
  exact ⟨r1, S1, sd, _, x, a.step t1 s1, h1, fun ds S2 r2 vs H2 h2 t2 s2 rd2 => g (d :: ds) S2 r2 (v :: vs) H2 h2 (t1.trans t2) s2 (.cons (rd1.mono t2) rd2), gx.step t1⟩
def mTup (m : MA) : ME := fun sd S q x => m sd S (fun ds S1 => ds.length ≤ sizeLine ∧ q (.tup ds) S1) x
def mLst (m : MA) : ME := fun sd S q x => m sd S (fun ds S1 => ds.length ≤ sizeLine ∧ q (.ref S1.length) (S1 ++ [.lst ds])) x
theorem me_tup {x1} (h : PA X es (tA c mr)) : PE X (.Tuple es x1 pos) (tE c (mTup mr)) := weakE (pe_tup h) fun s H Q z => by
  obtain ⟨r, S, sd, q, x, a, hm, g, gx⟩ := z
  refine ⟨r, S, sd, _, x, a, hm, fun ds S1 r1 vs H1 h1 t1 s1 rd1 => ?_, gx⟩
  refine ⟨by rw [← rd1.length]; exact h1.1, fun p np => ?_⟩
  have t2 : Stp r1 H1 r1 (upd H1 p (.tup vs)) := Stp.laid np
  exact g _ S1 r1 _ _ h1.2 (t1.trans t2) (s1.laid np) (.tup (.inl (.inl upd_same)) (rd1.mono t2))
theorem me_lst (h : PA X es (tA c mr)) : PE X (.List es pos) (tE c (mLst mr)) := weakE (pe_lst h) fun s H Q z => by
  obtain ⟨r, S, sd, q, x, a, hm, g, gx⟩ := z
  refine ⟨r, S, sd, _, x, a, hm, fun ds S1 r1 vs H1 h1 t1 s1 rd1 => ?_, gx⟩
  refine ⟨by rw [← rd1.length]; exact h1.1, fun p np => ?_⟩
  have t2 : Stp r1 H1 (r1 ++ [p]) (upd H1 p (.lst vs)) := Stp.cell np
  exact g _ _ (r1 ++ [p]) _ _ h1.2 (t1.trans t2) (s1.cell np (.lst upd_same (rd1.mono t2))) (.ref (by rw [← s1.len, List.getElem?_append_right (Nat.le_refl _)]; simp))
end
end Lw

namespace Lw
open PySem PySem.Spec PyProof.Rows L2

/-! ### statements -/
def mNext : MS := fun md sd S => md.nx sd S
def mSeq (a b : MS) : MS := fun md sd S => a { md with nx := b md } sd S
def mExpr (m : ME) : MS := fun md sd S => m sd S (fun _ S1 => md.nx sd S1) (fun e S1 => md.ex e sd S1)
def mRet (m : ME) : MS := fun md sd S => m sd S md.rt (fun e S1 => md.ex e sd S1)
def mRetN : MS := fun md _ S => md.rt .non S
def mIfS (t : MT) (a b : MS) : MS := fun md sd S => t sd S (fun k S1 => if k = true then a md sd S1 else b md sd S1) (fun e S1 => md.ex e sd S1)
def mBreak : MS := fun md sd S => md.bk sd S
def mCont : MS := fun md sd S => md.ct sd S
/-- targets -/
abbrev MG := D → Sg → Sto → (Sg → Sto → Prop) → Prop
abbrev MGs := List D → Sg → Sto → (Sg → Sto → Prop) → Prop
def gmName (i : Nat) : MG := fun d sd S k => k (sd.set i (some d)) S
def gmNil : MGs := fun ds sd S k => match ds with
  | [] => k sd S
  | _ => False
def gmCons (g : MG) (h : MGs) : MGs := fun ds sd S k => match ds with
  | d :: es => g d sd S (fun sd1 S1 => h es sd1 S1 k)
  | _ => False
def gmTup (n : Nat) (h : MGs) : MG := fun d sd S k => match d with
  | .tup ds => ds.length = n ∧ h ds sd S k
  | _ => False
def mAsg (m : ME) (g : MG) : MS := fun md sd S => m sd S (fun d S1 => g d sd S1 md.nx) (fun e S1 => md.ex e sd S1)
/-- x, y = e, f: two local names -/
def mPar (i j : Nat) (a b : ME) : MS := fun md sd S => a sd S (fun d S1 => b sd S1 (fun e S2 => md.nx ((sd.set i (some d)).set j (some e)) S2) (fun e S1 => md.ex e sd S1)) (fun e S1 => md.ex e sd S1)

section
variable {X : Cx} {c : Cn} {m ma mb : ME} {a b e tg : Expr} {es : List Expr} {mr : MA} {pos : Pos} {st : Stmt} {rest sa sb : List Stmt} {p q : MS} {t : MT}
theorem goX_of {r : List Addr} {H : Hp} {md : MEnds} {D : Ends} {sd : Sg} {s : L2.St} (g : EOk c r H md D) (rl : RelG c.K c.mg r H sd s) : GoX c r H s (fun e S1 => md.ex e sd S1) :=
  fun e S' r' H' cls dd h t sm rx => g.ex e sd S' r' s H' cls dd h t sm (rl.mono t) rx
theorem mss_nil : PSs X [] (tS c mNext) := weakSs pss_nil fun D s H z => by
  obtain ⟨r, S, sd, md, a, hm, g⟩ := z
  exact g.nx sd S r s H hm Stp.refl a.sim a.rel
theorem mss_cons (h1 : PS X st (tS c p)) (h2 : PSs X rest (tS c q)) : PSs X (st :: rest) (tS c (mSeq p q)) := weakSs (pss_cons h1 h2) fun D s H z => by
  obtain ⟨r, S, sd, md, a, hm, g⟩ := z
  refine ⟨r, S, sd, { md with nx := q md }, a, hm, ⟨fun sd1 S1 r1 s1 H1 h t sm rl => ?_, g.rt, g.bk, g.ct, g.ex⟩⟩
  exact ⟨r1, S1, sd1, md, ⟨sm, rl, c.st t a.hyp⟩, h, g.step t⟩
theorem mss_one (h1 : PS X st (tS c p)) : PSs X [st] (tS c p) := pss_one h1
theorem ms_pass : PS X (.Pass pos) (tS c mNext) := weakS ps_pass fun D s H z => by
  obtain ⟨r, S, sd, md, a, hm, g⟩ := z
  exact g.nx sd S r s H hm Stp.refl a.sim a.rel
theorem ms_break : PS X (.Break pos) (tS c mBreak) := weakS ps_break fun D s H z => by
  obtain ⟨r, S, sd, md, a, hm, g⟩ := z
  exact g.bk sd S r s H hm Stp.refl a.sim a.rel
theorem ms_cont : PS X (.Continue pos) (tS c mCont) := weakS ps_continue fun D s H z => by
  obtain ⟨r, S, sd, md, a, hm, g⟩ := z
  exact g.ct sd S r s H hm Stp.refl a.sim a.rel
theorem ms_never : PS X st (tS c fun _ _ _ => False) := weakS ps_never fun D s H z => by
  obtain ⟨r, S, sd, md, a, hm, g⟩ := z
  exact hm.elim
theorem ms_expr (he : PE X e (tE c m)) (hs : swapsWith e none pos.line X.env = pure false := by rfl) : PS X (.Expr e pos) (tS c (mExpr m)) := weakS (ps_expr he hs) fun D s H z => by
  obtain ⟨r, S, sd, md, a, hm, g⟩ := z
  exact ⟨r, S, sd, _, _, a, hm, fun d S1 r1 v H1 h t sm rd => g.nx sd S1 r1 s H1 h t sm (a.rel.mono t), goX_of g a.rel⟩
theorem ms_ret (he : PE X e (tE c m)) : PS X (.Return (some e) pos) (tS c (mRet m)) := weakS (ps_ret he) fun D s H z => by
  obtain ⟨r, S, sd, md, a, hm, g⟩ := z
  exact ⟨r, S, sd, _, _, a, hm, g.rt, goX_of g a.rel⟩
theorem ms_retN : PS X (.Return none pos) (tS c mRetN) := weakS ps_retN fun D s H z => by
  obtain ⟨r, S, sd, md, a, hm, g⟩ := z
  exact g.rt .non S r .non H hm Stp.refl a.sim .non
theorem ms_if (ht : PT X e (tT c t)) (ha : PSs X sa (tS c p)) (hb : PSs X sb (tS c q)) : PS X (.If e sa sb pos) (tS c (mIfS t p q)) := weakS (ps_if ht ha hb) fun D s H z => by
  obtain ⟨r, S, sd, md, a, hm, g⟩ := z
  refine ⟨r, S, sd, _, _, a, hm, fun k S1 r1 H1 h t sm => ?_, goX_of g a.rel⟩
  cases k with
  | true => exact iteT ⟨r1, S1, sd, md, a.step t sm, h, g.step t⟩
  | false => exact iteF ⟨r1, S1, sd, md, a.step t sm, h, g.step t⟩
/-! targets -/
def tGm (c : Cn) (g : MG) : TG := fun v s H Q => ∃ r S sd d k, At c r S sd s H ∧ c.Rd r H d v ∧ g d sd S k ∧ ∀ sd' S' r' s' H', k sd' S' → Stp r H r' H' → c.Sm r' H' S' → RelG c.K c.mg r' H' sd' s' → Q s' H'
def tGms (c : Cn) (g : MGs) : TGs := fun v s H Q => ∃ r S sd d k, At c r S sd s H ∧ c.Rs r H d v ∧ g d sd S k ∧ ∀ sd' S' r' s' H', k sd' S' → Stp r H r' H' → c.Sm r' H' S' → RelG c.K c.mg r' H' sd' s' → Q s' H'
theorem weakG {t t' : TG} (h : PG X e t) (w : ∀ v s H Q, t' v s H Q → t v s H Q) : PG X e t' := ⟨fun pins s o H x u Q I r q => h.run pins s o H x u Q I r (w _ _ _ _ q)⟩
theorem weakGs {t t' : TGs} (h : PGs X es t) (w : ∀ v s H Q, t' v s H Q → t v s H Q) : PGs X es t' := ⟨fun pins s o H x u Q I r q => h.run pins s o H x u Q I r (w _ _ _ _ q)⟩
theorem RelG.put {K : PySem.W.Frag} {mg : Mg} {r : List Addr} {H : Hp} {sd : Sg} {s : L2.St} {i : Nat} {d : D} {v : V} (g : RelG K mg r H sd s) (rd : RelD K mg r H d v) : RelG K mg r H (sd.set i (some d)) (s.set i (some v)) := by
  refine ⟨by simp [g.len], fun j e h => ?_⟩
  by_cases hj : i = j
  · subst hj
    by_cases hl : i < sd.length
    · rw [List.getElem?_set_self hl] at h
      cases h
      exact ⟨v, List.getElem?_set_self (by rw [← g.len]; exact hl), rd⟩
    · rw [List.getElem?_eq_none (by simpa using hl)] at h; cases h
  · rw [List.getElem?_set_ne hj] at h
    obtain ⟨u, hu, ru⟩ := g.at_ j e h
    exact ⟨u, by rw [List.getElem?_set_ne hj]; exact hu, ru⟩
theorem gm_name {i : Nat} (h : PG X e (gName i)) : PG X e (tGm c (gmName i)) := weakG h fun v s H Q z => by
  obtain ⟨r, S, sd, d, k, a, rd, hg, n⟩ := z
  exact n _ S r _ H hg Stp.refl a.sim (a.rel.put rd)
theorem gms_nil : PGs X [] (tGms c gmNil) := weakGs pgs_nil fun v s H Q z => by
  obtain ⟨r, S, sd, d, k, a, rd, hg, n⟩ := z
  cases rd with
  | nil => exact ⟨rfl, n sd S r s H hg Stp.refl a.sim a.rel⟩
  | cons _ _ => exact hg.elim
theorem gms_cons {g : MG} {h : MGs} (h1 : PG X e (tGm c g)) (h2 : PGs X es (tGms c h)) (hs : (assignEach (e :: es) X.env).map (·.2) = assign e X.env :: (assignEach es X.env).map (·.2) := by rfl) : PGs X (e :: es) (tGms c (gmCons g h)) := weakGs (pgs_cons h1 h2 hs) fun v s H Q z => by
  obtain ⟨r, S, sd, d, k, a, rd, hg, n⟩ := z
  cases rd with
  | nil => exact hg.elim
  | cons r1 r2 =>
    refine ⟨_, _, rfl, r, S, sd, _, _, a, r1, hg, fun sd1 S1 ra s1 H1 h t sm rl => ?_⟩
    exact ⟨ra, S1, sd1, _, k, ⟨sm, rl, c.st t a.hyp⟩, r2.mono t, h, fun sd2 S2 rb s2 H2 h t2 => n sd2 S2 rb s2 H2 h (t.trans t2)⟩
theorem gm_tup {k : Nat} {n : Nat} {h : MGs} (hK : c.K = X.K) (hc : X.calm = true) (hs : PGs X es (tGms c h)) (hp : PG X (.Tuple es k pos) (gTup X.K n (tGms c h))) : PG X (.Tuple es k pos) (tGm c (gmTup n h)) := weakG hp fun v s H Q z => by
  obtain ⟨r, S, sd, d, kk, a, rd, hg, nn⟩ := z
  cases rd with
  | tup hq rs => exact ⟨_, _, rfl, by rw [← hK]; exact hq, by rw [← rs.length]; exact hg.1, r, S, sd, _, kk, a, rs, hg.2, nn⟩
  | _ => exact hg.elim
theorem ms_asg {g : MG} (he : PE X e (tE c m)) (hg : PG X tg (tGm c g)) (hs : swapsWithSole [tg] e pos.line X.env = pure false := by rfl) (hw : swappedStores [tg] e X.env = pure none := by rfl) (ha : (assignEach [tg] X.env).map (·.2) = [assign tg X.env] := by rfl) : PS X (.Assign [tg] e pos) (tS c (mAsg m g)) := weakS (ps_asg he hg hs hw ha) fun D s H z => by
  obtain ⟨r, S, sd, md, a, hm, g⟩ := z
  exact ⟨r, S, sd, _, _, a, hm, fun d S1 r1 v H1 h t sm rd => ⟨r1, S1, sd, d, md.nx, a.step t sm, rd, h, (g.step t).nx⟩, goX_of g a.rel⟩
theorem ms_set {i : Nat} {x : Str} {pos' : Pos} (hN : X.N.Nodup) (hi : X.N[i]? = some x) (hx : Loc X.env.scope x) (he : PE X e (tE c m)) (hs : swapsWith e (some (.Name x pos')) pos.line X.env = pure false := by rfl) (hf : X.fn x = true ∨ X.env.scope.names.lookup x = some .local := by first | exact .inl rfl | exact .inr rfl | assumption) :
    PS X (.Assign [.Name x pos'] e pos) (tS c (mAsg m (gmName i))) := weakS (ps_set hN hi hx he hs hf) fun D s H z => by
  obtain ⟨r, S, sd, md, a, hm, g⟩ := z
  exact ⟨r, S, sd, _, _, a, hm, fun d S1 r1 v H1 h t sm rd => g.nx _ S1 r1 _ H1 h t sm ((a.rel.mono t).put rd), goX_of g a.rel⟩
theorem ms_par {i j : Nat} {tgs : List Expr} {k1 : Nat} {px : Pos} {vx : Expr} (h : PS X (.Assign [.Tuple tgs k1 px] vx pos) (tPar i j (tCons (tE c ma) (tCons (tE c mb) tNil)))) : PS X (.Assign [.Tuple tgs k1 px] vx pos) (tS c (mPar i j ma mb)) := weakS h fun D s H z => by
  obtain ⟨r, S, sd, md, a, hm, g⟩ := z
  refine ⟨r, S, sd, _, _, a, hm, fun d S1 r1 v H1 h t sm rd => ?_, goX_of g a.rel⟩
  have g1 := g.step t
  refine ⟨r1, S1, sd, _, _, a.step t sm, h, fun e S2 r2 u H2 h2 t2 sm2 rd2 => ?_, goX_of g1 (a.rel.mono t)⟩
  exact ⟨v, u, rfl, g.nx _ S2 r2 _ H2 h2 (t.trans t2) sm2 (((a.rel.mono (t.trans t2)).put (rd.mono t2)).put rd2)⟩
/-- x op= e at a name -/
def mAug (i : Nat) (f : MOp) (m : ME) : MS := fun md sd S => match sd[i]? with
  | some (some d) => m sd S (fun e S1 => f d e S1 (fun o S2 => md.nx (sd.set i (some o)) S2)) (fun e S1 => md.ex e sd S1)
  | _ => False
theorem ms_aug {i : Nat} {x : Str} {op : Operator} {f : MOp} {pos' : Pos} (h : OpM X c (inplaceOp op) f) (hN : X.N.Nodup) (hi : X.N[i]? = some x) (hx : Loc X.env.scope x) (he : PE X e (tE c m))
    (hst : ∀ {R : R2}, OpR X (inplaceOp op) R → PS X (.AugAssign (.Name x pos') op e pos) (tAug i (tE c m) R)) :
    PS X (.AugAssign (.Name x pos') op e pos) (tS c (mAug i f m)) := by
  obtain ⟨R, ho, w⟩ := h.ok
  refine weakS (hst ho) fun D s H z => ?_
  obtain ⟨r, S, sd, md, a, hm, g⟩ := z
  unfold mAug at hm
  split at hm
  · rename_i d ed
    obtain ⟨v, ev, rv⟩ := a.rel.at_ i d ed
    refine ⟨v, ev, r, S, sd, _, _, a, hm, fun e S1 r1 u H1 h t sm rd => ?_, goX_of g a.rel⟩
    exact w _ _ _ _ ⟨r1, S1, d, e, _, sm, rv.mono t, rd, h, fun o S2 r2 y H2 h2 t2 sm2 rd2 => g.nx _ S2 r2 _ H2 h2 (t.trans t2) sm2 ((a.rel.mono (t.trans t2)).put rd2)⟩
  · exact hm.elim
/-- while -/
def whN (t : MT) (b : MS) : Nat → MS
  | 0 => fun _ _ _ => False
  | n + 1 => fun md sd S => t sd S (fun k S1 => if k = true then b { md with nx := whN t b n md, ct := whN t b n md, bk := md.nx } sd S1 else md.nx sd S1) (fun e S1 => md.ex e sd S1)
def mWhile (t : MT) (b : MS) : MS := fun md sd S => ∃ n, whN t b n md sd S
theorem ms_while (hp : PassesOwn (model X.prog X.w) X.A X.env X.xe) (ht : PT X e (tT c t)) (hb : PSs X sa (tS c p)) : PS X (.While e sa [] pos) (tS c (mWhile t p)) := weakS (ps_while hp ht hb) fun D s H z => by
  obtain ⟨r, S, sd, md, a, ⟨n, hm⟩, g⟩ := z
  refine ⟨fun m s' H' => ∃ r S sd, At c r S sd s' H' ∧ whN t p m md sd S ∧ EOk c r H' md D, ⟨n, r, S, sd, a, hm, g⟩, fun m s1 H1 w => ?_⟩
  obtain ⟨r1, S1, sd1, a1, h1, g1⟩ := w
  cases m with
  | zero => exact h1.elim
  | succ m =>
    refine ⟨r1, S1, sd1, _, _, a1, h1, fun k S2 r2 H2 h2 t2 sm2 => ?_, goX_of g1 a1.rel⟩
    cases k with
    | false => exact iteF (g1.nx sd1 S2 r2 s1 H2 h2 t2 sm2 (a1.rel.mono t2))
    | true =>
      refine iteT ⟨fun s' H' => ∃ r S sd, At c r S sd s' H' ∧ whN t p m md sd S ∧ EOk c r H' md D, fun s' H' w => ⟨m, Nat.lt_succ_self m, w⟩, ?_⟩
      have g2 := g1.step t2
      refine ⟨r2, S2, sd1, { md with nx := whN t p m md, ct := whN t p m md, bk := md.nx }, a1.step t2 sm2, h2, ⟨fun sd3 S3 r3 s3 H3 h3 t3 sm3 rl3 => ?_, g2.rt, g2.nx, fun sd3 S3 r3 s3 H3 h3 t3 sm3 rl3 => ?_, g2.ex⟩⟩
      · exact ⟨r3, S3, sd3, ⟨sm3, rl3, c.st t3 (c.st t2 a1.hyp)⟩, h3, g2.step t3⟩
      · exact ⟨r3, S3, sd3, ⟨sm3, rl3, c.st t3 (c.st t2 a1.hyp)⟩, h3, g2.step t3⟩
end

/-! ### defs -/
abbrev Spec := List D → Sto → QD → QX → Prop
/-- a def's promise where nothing is being shown by repr (so repr may be called) -/
structure FnG (P : Program) (w : World) (K : PySem.W.Frag) (mg : Mg) (base : Heap) (k : Nat) (f : Addr) (fd : FuncData) (ps : List Str) (sp : Sp) : Prop where
  len : ∀ vs H Q E, sp vs H Q E → vs.length = ps.length
  run : ∀ (A : Around) (outer : List Env) (s : Shared) (H : Hp) (args : Args) (us : List Value) (vs : List V) (Q : VK) (E : XK), Room k A → A.guards = some [] →
    Env0 P w K mg base A outer s H → BindsTo s fd args (ps.zip us) → Vals vs us → sp vs H Q E → codeAny (model P w) A (.call (.ref f) args) (CR (L2.CX P w) outer P w H s Q E) s
theorem FnG.mono {P : Program} {w : World} {K : PySem.W.Frag} {mg : Mg} {base : Heap} {j k : Nat} {f : Addr} {fd : FuncData} {ps : List Str} {sp : Sp} (F : FnG P w K mg base j f fd ps sp) (h : j ≤ k) : FnG P w K mg base k f fd ps sp :=
  ⟨F.len, fun A outer s H args us vs Q E hr => F.run A outer s H args us vs Q E (hr.mono h)⟩
/-- the promise that a def does what the transformer u says -/
def spOf (K : PySem.W.Frag) (mg : Mg) (u : Spec) : Sp := fun vs H Q E => ∃ r S ds q x, Sim K mg r H S ∧ RelDs K mg r H ds vs ∧ u ds S q x ∧
  (∀ d S' r' v H', q d S' → Stp r H r' H' → Sim K mg r' H' S' → RelD K mg r' H' d v → Q v H') ∧ ∀ e S' r' H' cls dd, x e S' → Stp r H r' H' → Sim K mg r' H' S' → RelX K mg r' H' e cls dd → E cls dd H'
/-- what a body with n parameters and N names does -/
def body (n N : Nat) (m : MS) : Spec := fun ds S q x => ds.length = n ∧ m { nx := fun _ S' => q .non S', rt := q, bk := fun _ _ => False, ct := fun _ _ => False, ex := fun e _ S' => x e S' } (ds.map some ++ List.replicate (N - ds.length) none) S
theorem relG_start {K : PySem.W.Frag} {mg : Mg} {r : List Addr} {H : Hp} {N : List Str} {ds : List D} {vs : List V} (h : RelDs K mg r H ds vs) : RelG K mg r H (ds.map some ++ List.replicate (N.length - ds.length) none) (L2.start N vs) := by
  have hl := h.length
  refine ⟨by unfold L2.start; simp [hl], fun i d e => ?_⟩
  by_cases hi : i < ds.length
  · rw [List.getElem?_append_left (by simpa using hi), List.getElem?_map] at e
    cases q : ds[i]? with
    | none => rw [q] at e; cases e
    | some d' =>
      rw [q] at e
      cases e
      obtain ⟨v, hv, rv⟩ := h.get q
      refine ⟨v, ?_, rv⟩
      unfold L2.start
      rw [List.getElem?_append_left (by simpa [← hl] using hi), List.getElem?_map, hv]
      rfl
  · rw [List.getElem?_append_right (by simpa using hi)] at e
    have z := List.mem_of_getElem? e
    rw [List.mem_replicate] at z
    cases z.2
section
variable {P : Program} {w : World} {K : PySem.W.Frag} {mg : Mg} {base : Heap} {x qual : Str} {params : Arguments} {bd : List Stmt} {scope : Scope} {dvs : List V} {kws : List (Str × V)} {f : Addr} {fd : FuncData}
/-- the rule for a def -/
theorem okD {N ps : List Str} {k n NN : Nat} {m : MS} (F : FunD K x qual params bd scope dvs kws f fd) (S : FnScope N ps scope) (hn : ps.length = n) (hN : N.length = NN)
    (hb : ∀ (cdv : Value) (A : Around) (outer : List Env) (s : Shared) (H : Hp) (E : XK), Room k (A.deeper (envOfC qual scope s.heap.objs.size f cdv)) → A.guards = some [] →
      PSs (cxOf (L2.CX P w) P w K mg base N qual scope f cdv A outer s H E) bd (tS (Cx.cn (cxOf (L2.CX P w) P w K mg base N qual scope f cdv A outer s H E) (fun cls d _ H' => E cls d H')) m)) :
    FnG P w K mg base (k + 1) f fd ps (spOf K mg (body n NN m)) := by
  subst hn hN
  obtain ⟨oc, od, dV, kV, doc, pm, an, cdv, ct, osl, efd, lk, hcd, _, _⟩ := F.ex
  subst efd
  have len : ∀ vs H Q E, spOf K mg (body ps.length N.length m) vs H Q E → vs.length = ps.length := fun vs H Q E h => by
    obtain ⟨_, _, ds, _, _, _, rd, hu, _⟩ := h
    rw [← rd.length]
    exact hu.1
  refine ⟨len, fun A outer s H args us vs Q E hr hg e0 hbi rv hsp => ?_⟩
  have KX : K.In s.heap := e0.mod.kin.keeps fun b o e => (e0.bs b o e).1
  have lim : s.heap.NoLimit := e0.mod.nolimit.keeps fun b o e => (e0.bs b o e).1
  refine codeAny_call_function hr.depth (KX _ _ lk) rfl S.co S.gen rfl (PySem.W.codeRec_of KX hcd) (hbi _ _ _ _ ?_)
  refine wpAny_newFunctionEnv_cells S.kind (fun y hy => ?_) fun env he s1 xx => ?_
  · obtain ⟨n, v⟩ := y
    have hm : n ∈ ps := (List.of_mem_zip hy).1
    exact (S.par n hm).elim (fun q => .inl q) fun q => .inr ⟨q, PySem.W.cellsFrom_some _ _ _ (.inl q)⟩
  subst he
  refine ⟨lim.keeps xx.toInCall.keep, codeAny_func ?_⟩
  have I := inv_start (CX := L2.CX P w) (E := E) S hr.hd e0 (len _ _ _ _ hsp) rv xx
  obtain ⟨r, St, ds, q, qx, sm, rd, hu, hq, hx⟩ := hsp
  have go : tS (Cx.cn (cxOf (L2.CX P w) P w K mg base N qual scope f cdv A outer s H E) (fun cls d _ H' => E cls d H')) m { nx := fun _ H' => Q .non H', rt := Q } (L2.start N vs) H :=
    ⟨r, St, _, _, ⟨sm, relG_start rd, trivial⟩, hu.2, ⟨fun sd' S' r' s' H' h t sm' _ => hq .non S' r' .non H' h t sm' .non, fun d S' r' v H' h t sm' rd' => hq d S' r' v H' h t sm' rd', fun _ _ _ _ _ h => h.elim, fun _ _ _ _ _ h => h.elim, fun e sd' S' r' s' H' cls dd h t sm' _ rx => hx e S' r' H' cls dd h t sm' rx⟩⟩
  refine wpAny_mono ((hb cdv A outer s H E (hr.deeper _) hg).run [] s1 (L2.start N vs) H _ I go) (fun fl s' hs => ?_) fun e s' hs => hs
  cases fl with
  | ret u =>
    obtain ⟨v, σ', H', J, rv', q'⟩ := hs
    exact ⟨v, H', J.os, J.bare, J.base, J.hok, rv', q'⟩
  | next =>
    obtain ⟨σ', H', J, q'⟩ := hs
    exact ⟨.non, H', J.os, J.bare, J.base, J.hok, rfl, q'⟩
  | brk =>
    obtain ⟨_, _, _, q'⟩ := hs
    exact q'.elim
  | cont =>
    obtain ⟨_, _, _, q'⟩ := hs
    exact q'.elim
end
/-! ### calls -/
/-- the callee runs, from a place X -/
theorem runG {X : Cx} {k : Nat} {f : Addr} {fd : FuncData} {ps : List Str} {sp : Sp} {W : WX} {ds us : List Value} {vs dvs : List V} {pins : List (Addr × Obj)} {σ : L2.St} {H : Hp} {s : Shared} {Q : VK}
    (F : FnG X.prog X.w X.K X.mg X.base k f fd ps sp) (tk : Takes X W) (hr : Room k X.A) (hg : X.A.guards = some []) (hb : Binds X.K fd ps ds) (hd : Vals dvs ds) (I : Inv X pins σ H s) (r : Vals vs us) (h : sp (vs ++ dvs) H Q (WE W σ)) :
    wpAny (model X.prog X.w) X.A (call (.ref f) us) (EP X pins σ Q) X.xe s := by
  have r2 : Vals (vs ++ dvs) (us ++ ds) := r.append hd
  have hl : (us ++ ds).length = ps.length := r2.length.symm.trans (F.len _ _ _ _ h)
  refine wpAny_call (codeAny_mono (F.run X.A X.stack s H ⟨us, []⟩ _ _ Q (WE W σ) hr hg I.env0 (hb s us I.kIn hl) r2 h) fun rs s' hq => ?_)
  cases rs with
  | error e => exact passAt tk σ pins H s e s' I hq
  | ok fl =>
    cases fl with
    | ret u => exact I.after hq
    | next => exact hq.elim
    | brk => exact hq.elim
    | cont => exact hq.elim
def mCall (u : Spec) (dd : List D) (m : MA) : ME := fun sd S q x => m sd S (fun ds S1 => u (ds ++ dd) S1 q x) x
section
variable {X : Cx} {c : Cn} {m ma mb : ME} {a b e o : Expr} {es : List Expr} {mr : MA} {p pos apos : Pos} {k n : Nat} {f C : Addr} {fd : FuncData} {ps : List Str} {u : Spec} {x mt : Str} {ds : List Value} {dvs : List V} {dd : List D}
/-- what a place must have for calls -/
structure CallOk (X : Cx) (c : Cn) (k : Nat) : Prop where
  tk : Takes X c.W
  room : Room k X.A
  gd : X.A.guards = some []
  K : c.K = X.K
  mg : c.mg = X.mg
theorem CallOk.mono {j k : Nat} (h : CallOk X c k) (l : j ≤ k) : CallOk X c j := ⟨h.tk, h.room.mono l, h.gd, h.K, h.mg⟩
/-- a def as it may be called: its function, arity, defaults -/
structure Fn (X : Cx) (k : Nat) (f : Addr) (u : Spec) (dd : List D) : Prop where
  ex : ∃ fd ps dvs ds, FnG X.prog X.w X.K X.mg X.base k f fd ps (spOf X.K X.mg u) ∧ Binds X.K fd ps ds ∧ Vals dvs ds ∧ ∀ r H, RelDs X.K X.mg r H dd dvs
  kp : PySem.W.keepIn X.K (.ref f) = true
theorem call_of (hK : c.K = X.K) (hm : c.mg = X.mg) (hdd : ∀ r H, RelDs X.K X.mg r H dd dvs) {s : L2.St} {r : List Addr} {S : Sto} {dl : List D} {vs : List V} {H : Hp} {Q : VK} {q : QD} {xx : QX}
    (sm : c.Sm r H S) (rd : c.Rs r H dl vs) (h : u (dl ++ dd) S q xx) (g : GoV c r H q Q) (gx : GoX c r H s xx) : spOf X.K X.mg u (vs ++ dvs) H Q (WE c.W s) := by
  obtain ⟨cK, cmg, cP, cst, cW⟩ := c
  obtain rfl : cK = X.K := hK
  obtain rfl : cmg = X.mg := hm
  exact ⟨r, S, _, q, xx, sm, rd.append (hdd r H), h, g, gx⟩
/-- the callee with values that stand for trees -/
theorem fn_run (F : Fn X k f u dd) (hc : CallOk X c k) {pins : List (Addr × Obj)} {σ : L2.St} {H : Hp} {s : Shared} {Q : VK} {us : List Value} {vs : List V} {r : List Addr} {S : Sto} {dl : List D} {q : QD} {xx : QX} (I : Inv X pins σ H s) (rv : Vals vs us)
    (sm : c.Sm r H S) (rd : c.Rs r H dl vs) (h : u (dl ++ dd) S q xx) (g : GoV c r H q Q) (gx : GoX c r H σ xx) : wpAny (model X.prog X.w) X.A (call (.ref f) us) (EP X pins σ Q) X.xe s := by
  obtain ⟨fd, ps, dvs, ds, FF, hb, hd, hdd⟩ := F.ex
  exact runG FF hc.tk hc.room hc.gd hb hd I rv (call_of hc.K hc.mg hdd sm rd h g gx)
theorem me_call (F : Fn X k f u dd) (hc : CallOk X c k) (hg : Gl X x) (hm : X.mg x = some (.ref f)) (ha : PA X (e :: es) (tA c mr))
    (hdb : (x == ("__debug__" : Str)) = false := by decide) (he : starEach (e :: es) X.env = (false, eval e X.env) :: starEach es X.env := by rfl) (hpl : (backTo pos (starEach es X.env)).any (·.1) = false := by rfl) :
    PE X (.Call (.Name x p) (e :: es) [] pos) (tE c (mCall u dd mr)) := by
  refine ⟨fun pins s σ H Q I h => wpAny_Call_Name_kw (ld_glob I hg hm ?_ hdb)⟩
  obtain ⟨r, S, sd, q, xx, a, hm, g, gx⟩ := h
  refine PySem.W.callWith_K (h₀ := X.base) I.ok.mod.kin F.kp (thn (ha.run pos pins s σ H (fun vs H1 => ∃ r1 S1 dl, c.Sm r1 H1 S1 ∧ c.Rs r1 H1 dl vs ∧ u (dl ++ dd) S1 q xx ∧ Stp r H r1 H1) I ⟨r, S, sd, _, xx, a, hm, fun dl S1 r1 vs H1 h t sm rd => ⟨r1, S1, dl, sm, rd, h, t⟩, gx⟩) fun us s1 ⟨vs, H1, I1, rr, z⟩ => ⟨I1.kIn, ?_⟩) he hpl
  obtain ⟨r1, S1, dl, sm, rd, hu, t⟩ := z
  exact fn_run F hc I1 rr sm rd hu (g.step t) (gx.step t)
theorem me_call0 (F : Fn X k f u dd) (hc : CallOk X c k) (hg : Gl X x) (hm : X.mg x = some (.ref f)) (hdb : (x == ("__debug__" : Str)) = false := by decide) : PE X (.Call (.Name x p) [] [] pos) (tE c (mCall u dd maNil)) := by
  refine ⟨fun pins s σ H Q I h => wpAny_Call_Name_kw (ld_glob I hg hm ?_ hdb)⟩
  obtain ⟨r, S, sd, q, xx, a, hm, g, gx⟩ := h
  exact PySem.W.callWith_K0 I.kIn F.kp (fn_run (us := []) (vs := []) (dl := []) F hc I .nil a.sim .nil hm g gx)

theorem RelFs.lookup {K : PySem.W.Frag} {mg : Mg} {r : List Addr} {H : Hp} {fs : List (Str × D)} {vs : List (Str × V)} (h : RelFs K mg r H fs vs) (f : Str) : (fs.lookup f = none → vs.lookup f = none) ∧ ∀ d, fs.lookup f = some d → ∃ v, vs.lookup f = some v ∧ RelD K mg r H d v := by
  induction h with
  | nil => exact ⟨fun _ => rfl, fun d h => by cases h⟩
  | @cons g d v ds vs h _ ih =>
    by_cases e : f = g
    · subst e
      refine ⟨fun z => ?_, fun d' z => ?_⟩
      · have z' : (match f == f with | true => some d | false => ds.lookup f) = none := z
        rw [beq_self_eq_true] at z'; cases z'
      · have z' : (match f == f with | true => some d | false => ds.lookup f) = some d' := z
        rw [beq_self_eq_true] at z'; cases z'
        refine ⟨v, ?_, h⟩
        show (match f == f with | true => some v | false => vs.lookup f) = some v
        rw [beq_self_eq_true]
    · have q : (f == g) = false := by simpa using e
      have e1 : ((g, d) :: ds).lookup f = ds.lookup f := by
        show (match f == g with | true => some d | false => ds.lookup f) = _
        rw [q]
      have e2 : ((g, v) :: vs).lookup f = vs.lookup f := by
        show (match f == g with | true => some v | false => vs.lookup f) = _
        rw [q]
      rw [e1, e2]
      exact ih
theorem RelFs.length {K : PySem.W.Frag} {mg : Mg} {r : List Addr} {H : Hp} {fs : List (Str × D)} {vs : List (Str × V)} (h : RelFs K mg r H fs vs) : fs.length = vs.length := by
  induction h with
  | nil => rfl
  | cons _ _ ih => simp [ih]
/-- the instance that stands for a cell -/
theorem ins_of {r : List Addr} {S : Sto} {H : Hp} {i : Nat} {cn : Str} {fs : List (Str × D)} {v : V} (sm : c.Sm r H S) (rd : c.Rd r H (.ref i) v) (h : S[i]? = some (.ins cn fs)) (hC : c.mg cn = some (.ref C)) :
    ∃ a dx vs, v = .ref a ∧ r[i]? = some a ∧ H a = some (.ins C dx vs) ∧ H dx = some (.own a) ∧ RelFs c.K c.mg r H fs vs := by
  cases rd with
  | ref hr =>
    cases sm.obj _ _ _ h hr with
    | ins h1 h2 h3 h4 =>
      rw [hC] at h3; cases h3
      exact ⟨_, _, _, rfl, hr, h1, h2, h4⟩
/-- d is an instance of the class cn -/
def isIns (cn : Str) (d : D) (S : Sto) (k : List (Str × D) → Prop) : Prop := match d with
  | .ref i => (match S[i]? with
    | some (.ins c' fs) => c' = cn ∧ k fs
    | _ => False)
  | _ => False
theorem isIns_of {cn : Str} {d : D} {S : Sto} {k : List (Str × D) → Prop} {r : List Addr} {H : Hp} {v : V} (h : isIns cn d S k) (sm : c.Sm r H S) (rd : c.Rd r H d v) (hC : c.mg cn = some (.ref C)) :
    ∃ i fs a dx vs, d = .ref i ∧ v = .ref a ∧ r[i]? = some a ∧ S[i]? = some (.ins cn fs) ∧ H a = some (.ins C dx vs) ∧ H dx = some (.own a) ∧ RelFs c.K c.mg r H fs vs ∧ k fs := by
  unfold isIns at h
  split at h
  · rename_i i
    split at h
    · rename_i c' fs hS
      obtain ⟨rfl, hk⟩ := h
      obtain ⟨a, dx, vs, e1, e2, e3, e4, e5⟩ := ins_of (C := C) sm rd hS hC
      exact ⟨i, fs, a, dx, vs, rfl, e1, e2, hS, e3, e4, e5, hk⟩
    · exact h.elim
  · exact h.elim
/-- o.m(e, ..), o an instance of the class cn -/
def mMeth (cn : Str) (mt : Str) (u : Spec) (dd : List D) (o : ME) (m : MA) : ME := fun sd S q x => o sd S (fun d S1 => isIns cn d S1 fun fs => fs.lookup mt = none ∧ m sd S1 (fun ds S2 => u (d :: (ds ++ dd)) S2 q x) x) x
/-- the receiver is walked -/
theorem recv {pins : List (Addr × Obj)} {σ : L2.St} {H : Hp} {s : Shared} {Q : VK} {cn : Str} (ho : PE X o (tE c m)) (hc : CallOk X c k) (hC : X.mg cn = some (.ref C)) (I : Inv X pins σ H s) (h : tE c (mMeth cn mt u dd m mr) σ H Q) {R : Value → Shared → Prop}
    (go : ∀ s1 H1 a dx vs, Inv X pins σ H1 s1 → H1 a = some (.ins C dx vs) → vs.lookup mt = none →
      tA c mr σ H1 (fun ws H2 => ∃ r2 S2 q xx dl, c.Sm r2 H2 S2 ∧ c.Rs r2 H2 dl (.ref a :: ws) ∧ u (dl ++ dd) S2 q xx ∧ GoV c r2 H2 q Q ∧ GoX c r2 H2 σ xx) → R (.ref a) s1) :
    wpAny (model X.prog X.w) X.A (eval o X.env) R X.xe s := by
  obtain ⟨r, S, sd, q, xx, a, hm, g, gx⟩ := h
  refine thn (ho.run pins s σ H (fun v H1 => ∃ a dx vs, v = V.ref a ∧ H1 a = some (.ins C dx vs) ∧ vs.lookup mt = none ∧
      tA c mr σ H1 (fun ws H2 => ∃ r2 S2 q xx dl, c.Sm r2 H2 S2 ∧ c.Rs r2 H2 dl (.ref a :: ws) ∧ u (dl ++ dd) S2 q xx ∧ GoV c r2 H2 q Q ∧ GoX c r2 H2 σ xx)) I ⟨r, S, sd, _, xx, a, hm, fun d S1 r1 v H1 h1 t1 sm1 rd1 => ?_, gx⟩) fun uu s1 ⟨v, H1, I1, rx, aa, dx, vs, ev, ea, l, q1⟩ => ?_
  · obtain ⟨i, fs, aa, dx, vs, rfl, rfl, er, eS, e1, e2, e3, hl, h2⟩ := isIns_of (C := C) h1 sm1 rd1 (by rw [hc.mg]; exact hC)
    exact ⟨aa, dx, vs, rfl, e1, (e3.lookup mt).1 hl, r1, S1, sd, _, xx, a.step t1 sm1, h2, fun dl S2 r2 ws H2 h6 t2 sm2 rd2 => ⟨r2, S2, q, xx, .ref i :: dl, sm2, .cons (rd1.mono t2) rd2, h6, (g.step t1).step t2, (gx.step t1).step t2⟩, gx.step t1⟩
  · subst ev
    obtain rfl : uu = Value.ref aa := rx
    exact go s1 H1 aa dx vs I1 ea l q1
theorem me_meth {pl : Sem Bool} {cn : Str} (ho : PE X o (tE c m)) (hC : X.mg cn = some (.ref C)) (hcl : Cls X.K C) (hmt : Meth X.K C mt f) (F : Fn X k f u dd) (hc : CallOk X c k) (ha : PA X (e :: es) (tA c mr))
    (hst : starEach (e :: es) X.env = (false, eval e X.env) :: starEach es X.env := by rfl) (hpl : (backTo pos (starEach es X.env)).any (·.1) = false := by rfl)
    (ht : eval (.Call (.Attribute o mt apos) (e :: es) [] pos) X.env = (do
      let ov ← eval o X.env
      standAt apos.atName
      let (f, first) ← holding [ov] (getMethod ov mt pl)
      callWith pos f first (backTo pos (starEach (e :: es) X.env)) (backToKw pos (keywordEach [] X.env))) := by rfl) :
    PE X (.Call (.Attribute o mt apos) (e :: es) [] pos) (tE c (mMeth cn mt u dd m mr)) := by
  refine ⟨fun pins s σ H Q I h => PySem.W.methodCall_KW (pl := pl) (recv ho hc hC I h fun s1 H1 a dx vs I1 ea l q1 => ?_) ht⟩
  refine getmeth_ok I1 ea hcl hmt l ?_
  refine PySem.W.callWith_K (first := [.ref a]) (h₀ := X.base) I.ok.mod.kin hmt.kp (thn (ha.run pos pins s1 σ H1 _ I1 q1) fun us s2 ⟨ws, H2, I2, rr, z⟩ => ⟨I2.kIn, ?_⟩) hst hpl
  obtain ⟨r2, S2, q, xx, dl, sm, rd, hu, g, gx⟩ := z
  exact fn_run (us := .ref a :: us) (vs := .ref a :: ws) F hc I2 (.cons rfl rr) sm rd hu g gx
theorem me_meth0 {pl : Sem Bool} {cn : Str} (ho : PE X o (tE c m)) (hC : X.mg cn = some (.ref C)) (hcl : Cls X.K C) (hmt : Meth X.K C mt f) (F : Fn X k f u dd) (hc : CallOk X c k)
    (ht : eval (.Call (.Attribute o mt apos) [] [] pos) X.env = (do
      let ov ← eval o X.env
      standAt apos.atName
      let (f, first) ← holding [ov] (getMethod ov mt pl)
      callWith pos f first (backTo pos (starEach [] X.env)) (backToKw pos (keywordEach [] X.env))) := by rfl) :
    PE X (.Call (.Attribute o mt apos) [] [] pos) (tE c (mMeth cn mt u dd m maNil)) := by
  refine ⟨fun pins s σ H Q I h => PySem.W.methodCall_KW (pl := pl) (recv ho hc hC I h fun s1 H1 a dx vs I1 ea l q1 => ?_) ht⟩
  refine getmeth_ok I1 ea hcl hmt l ?_
  obtain ⟨r1, S1, sd1, qa, xa, a1, hm1, ga, gax⟩ := q1
  obtain ⟨r2, S2, q, xx, dl, sm, rd, hu, g, gx⟩ := ga [] S1 r1 [] H1 hm1 Stp.refl a1.sim .nil
  exact PySem.W.callWith_K0 (first := [.ref a]) I1.kIn hmt.kp (fn_run (us := [.ref a]) (vs := [.ref a]) F hc I1 (.cons rfl .nil) sm rd hu g gx)
/-! attributes -/
/-- o.f, a field -/
def mFld (cn f : Str) (o : ME) : ME := fun sd S q x => o sd S (fun d S1 => isIns cn d S1 fun fs => match fs.lookup f with
  | some v => q v S1
  | none => False) x
theorem me_fld {cn f : Str} (ho : PE X o (tE c m)) (hC : X.mg cn = some (.ref C)) (hcl : Cls X.K C) (hno : NoAttr X.K C f) (hmg : c.mg = X.mg := by rfl) (hb : attributeBase o f X.env (eval o X.env) = eval o X.env := by rfl) : PE X (.Attribute o f pos) (tE c (mFld cn f m)) := weakE (pe_fld ho hb) fun s H Q z => by
  obtain ⟨r, S, sd, q, xx, a, hm, g, gx⟩ := z
  refine ⟨r, S, sd, _, xx, a, hm, fun d S1 r1 v H1 h1 t1 sm1 rd1 => ?_, gx⟩
  obtain ⟨i, fs, aa, dx, vs, rfl, rfl, er, eS, e1, e2, e3, hl⟩ := isIns_of (C := C) h1 sm1 rd1 (by rw [hmg]; exact hC)
  split at hl
  · rename_i v hv
    obtain ⟨u, hu, ru⟩ := (e3.lookup f).2 v hv
    exact ⟨aa, C, dx, vs, u, rfl, e1, hcl, hno, hu, g v S1 r1 u H1 hl t1 sm1 ru⟩
  · exact hl.elim
/-- o.f, a property -/
def mProp (cn : Str) (u : Spec) (o : ME) : ME := fun sd S q x => o sd S (fun d S1 => isIns cn d S1 fun _ => u [d] S1 q (fun _ _ => False)) x
theorem takes_nox {X : Cx} : Takes X.nox (fun _ _ _ _ => False) := takes0
theorem me_prop {cn fn : Str} {pa : Addr} (ho : PE X o (tE c m)) (hC : X.mg cn = some (.ref C)) (hcl : Cls X.K C) (hp : PropOf X.K C fn pa f) (F : Fn X k f u []) (hc : CallOk X c (k + 1)) (hab : attributeBase o fn X.env (eval o X.env) = eval o X.env := by rfl) : PE X (.Attribute o fn pos) (tE c (mProp cn u m)) := by
  refine ⟨fun pins s σ H Q I h => ?_⟩
  obtain ⟨r, S, sd, q, xx, a, hm, g, gx⟩ := h
  refine attr_of hab (thn (ho.run pins s σ H (fun v H1 => ∃ r1 S1 i, c.Sm r1 H1 S1 ∧ c.Rd r1 H1 (.ref i) v ∧ Stp r H r1 H1 ∧ u [.ref i] S1 q (fun _ _ => False) ∧ ∃ aa dx vs, v = .ref aa ∧ H1 aa = some (.ins C dx vs)) I ⟨r, S, sd, _, xx, a, hm, fun d S1 r1 v H1 h1 t1 sm1 rd1 => ?_, gx⟩) fun uu s1 ⟨v, H1, I1, rx, r1, S1, i, sm, rd, t, hu, aa, dx, vs, ev, ea⟩ => ?_)
  · obtain ⟨i, fs, aa, dx, vs, rfl, rfl, er, eS, e1, e2, e3, hl⟩ := isIns_of (C := C) h1 sm1 rd1 (by rw [hc.mg]; exact hC)
    exact ⟨r1, S1, i, sm1, rd1, t1, hl, aa, dx, vs, rfl, e1⟩
  subst ev
  obtain rfl : uu = Value.ref aa := rx
  obtain ⟨mA, OO, _, _, _, _⟩ := ins_get I1.hok ea
  obtain ⟨od, J, _⟩ := OO.look
  obtain ⟨rest, hrec⟩ := hp.rec_
  have I2 := I1.tok (s1.toks + 1)
  obtain ⟨fd, ps, dvs, ds, FF, hb, hd, hdd⟩ := F.ex
  have hcls : (PySem.W.clsIn X.K C).isSome = true := by
    obtain ⟨cd, hcd, _⟩ := PySem.W.any_some hcl.hd
    rw [hcd]; rfl
  have sp : spOf X.K X.mg u ([.ref aa] ++ dvs) H1 Q (fun _ _ _ => False) := call_of (c := ⟨c.K, c.mg, c.P, c.st, fun _ _ _ _ => False⟩) (s := σ) (dl := [.ref i]) hc.K hc.mg hdd sm (.cons rd .nil) hu (g.step t) (fun e S' r' H' cls dd h _ _ _ => h.elim)
  have hl : ([Value.ref aa] ++ ds).length = ps.length := by
    rw [← FF.len _ _ _ _ sp]
    show ds.length + 1 = dvs.length + 1
    rw [hd.length]
  refine PySem.W.get_bind I1.kIn J (PySem.W.plainGet_of (hcl.get fn)).1 (PySem.W.findObj_data hcls hp.at_ hp.get hp.tak) (PySem.W.plainGet_of (hcl.get fn)).2 (wpAny_call (PySem.W.prop_get (s := { s1 with toks := s1.toks + 1 }) I1.kIn hrec ?_))
  refine codeAny_mono (FF.run X.A.in1 X.stack { s1 with toks := s1.toks + 1 } H1 ⟨[.ref aa], []⟩ (.ref aa :: ds) (.ref aa :: dvs) Q (fun _ _ _ => False) hc.room.in1 hc.gd I2.env0.in1 (hb _ [.ref aa] I2.kIn hl) (.cons rfl hd) sp) fun rs s' hq => ?_
  cases rs with
  | error er =>
    have z := passL (X := X) pins σ H1 { s1 with toks := s1.toks + 1 } er s' I2 hq
    obtain ⟨_, _, _, _, _, _, _, _, _, _, _, _, z⟩ := hq
    exact z.elim
  | ok fl =>
    cases fl with
    | ret uv =>
      obtain ⟨v, H', I3, rv, q3⟩ := I2.after hq
      show wpAny _ _ (handedOut uv) _ _ _
      rw [PySem.W.handedOut_of (handed_of rv)]
      exact wpAny_pure ⟨v, H', I3, rv, q3⟩
    | next => exact hq.elim
    | brk => exact hq.elim
    | cont => exact hq.elim
/-- o.f = e, o an instance of the class cn -/
def putD (f : Str) (v : D) : List (Str × D) → List (Str × D)
  | [] => [(f, v)]
  | (g, u) :: r => if g = f then (g, v) :: r else (g, u) :: putD f v r
def mSetF (cn f : Str) (o e : ME) : MS := fun md sd S => e sd S (fun v S1 => o sd S1 (fun d S2 => match d with
  | .ref i => (match S2[i]? with
    | some (.ins c' fs) => c' = cn ∧ fs.length < 1000 ∧ md.nx sd (S2.set i (.ins cn (putD f v fs)))
    | _ => False)
  | _ => False) (fun e S1 => md.ex e sd S1)) (fun e S1 => md.ex e sd S1)
theorem RelFs.put {K : PySem.W.Frag} {mg : Mg} {r : List Addr} {H : Hp} {fs : List (Str × D)} {vs : List (Str × V)} {f : Str} {d : D} {v : V} (h : RelFs K mg r H fs vs) (rd : RelD K mg r H d v) : RelFs K mg r H (putD f d fs) (putF f v vs) := by
  induction h with
  | nil => exact .cons rd .nil
  | @cons g d' v' ds vs h q ih =>
    unfold putD putF
    by_cases e : g = f
    · rw [if_pos e, if_pos e]
      exact .cons rd q
    · rw [if_neg e, if_neg e]
      exact .cons h ih
theorem ms_setf {cn f : Str} {p' : Pos} (ho : PE X o (tE c ma)) (he : PE X e (tE c mb)) (hC : X.mg cn = some (.ref C)) (hcl : Cls X.K C) (hno : NoAttr X.K C f) (hmg : c.mg = X.mg := by rfl) (hs : swapsWith e (some (.Attribute o f p')) pos.line X.env = pure false := by rfl) :
    PS X (.Assign [.Attribute o f p'] e pos) (tS c (mSetF cn f ma mb)) := weakS (ps_fld ho he hs) fun D s H z => by
  obtain ⟨r, S, sd, md, a, hm, g⟩ := z
  refine ⟨r, S, sd, _, _, a, hm, fun d S1 r1 v H1 h1 t1 sm1 rd1 => ?_, goX_of g a.rel⟩
  have g1 := g.step t1
  refine ⟨r1, S1, sd, _, _, a.step t1 sm1, h1, fun dd S2 r2 u H2 h2 t2 sm2 rd2 => ?_, goX_of g1 (a.rel.mono t1)⟩
  cases dd with
  | ref i =>
    dsimp only at h2
    split at h2
    · rename_i c' fs hS
      obtain ⟨rfl, hl, hn⟩ := h2
      obtain ⟨aa, dx, vs, rfl, er, e1, e2, e3⟩ := ins_of (C := C) sm2 rd2 hS (by rw [hmg]; exact hC)
      have ha : aa ∈ r2 := List.mem_iff_getElem?.mpr ⟨i, er⟩
      have nf : ∀ ob u, H2 aa ≠ some (.frz ob u) := fun ob u z => by rw [e1] at z; cases z
      have t3 : Stp r2 H2 r2 (upd H2 aa (.ins C dx (putF f v vs))) := Stp.write sm2 ha nf
      have ndx : dx ≠ aa := fun z => by rw [z, e1] at e2; cases e2
      refine ⟨aa, C, dx, vs, rfl, e1, hcl, hno, by rw [← e3.length]; exact hl, ?_⟩
      refine g1.nx sd _ r2 s _ hn (t2.trans t3) (sm2.write er nf (.ins upd_same (by rw [upd_ne ndx]; exact e2) (by rw [hmg]; exact hC) ((e3.mono t3).put ((rd1.mono t2).mono t3)))) (((a.rel.mono t1).mono t2).mono t3)
    · exact h2.elim
  | _ => exact h2.elim
/-- C(e, ..), C an own class whose __init__ does what u says -/
def mMake (cn : Str) (u : Spec) (dd : List D) (m : MA) : ME := fun sd S q x => m sd S (fun ds S1 => u (.ref S1.length :: (ds ++ dd)) (S1 ++ [.ins cn []]) (fun d S2 => d = .non ∧ q (.ref S1.length) S2) x) x
theorem Sim.ins2 {K : PySem.W.Frag} {mg : Mg} {r : List Addr} {H : Hp} {S : Sto} {y dx : Addr} {cn : Str} (sm : Sim K mg r H S) (hy : H y = none) (hd : H dx = none) (ne : dx ≠ y) (hC : mg cn = some (.ref C)) :
    Sim K mg (r ++ [y]) (upd (upd H dx (.own y)) y (.ins C dx [])) (S ++ [.ins cn []]) ∧ Stp r H (r ++ [y]) (upd (upd H dx (.own y)) y (.ins C dx [])) := by
  have hy2 : upd H dx (.own y) y = none := by rw [upd_ne (Ne.symm ne)]; exact hy
  exact ⟨(sm.laid hd).cell hy2 (.ins upd_same (by rw [upd_ne ne]; exact upd_same) hC .nil), (Stp.laid hd).trans (Stp.cell hy2)⟩
theorem run_mk (M : Mk X.K C f) (F : Fn X k f u dd) (hc : CallOk X c (k + 1)) {cn : Str} (hC : X.mg cn = some (.ref C)) {pins : List (Addr × Obj)} {σ : L2.St} {H : Hp} {s : Shared} {Q : VK} {us : List Value} {vs : List V} {r : List Addr} {S : Sto} {dl : List D} {q : QD} {xx : QX} (I : Inv X pins σ H s) (rv : Vals vs us)
    (sm : c.Sm r H S) (rd : c.Rs r H dl vs) (h : u (.ref S.length :: (dl ++ dd)) (S ++ [.ins cn []]) (fun d S2 => d = .non ∧ q (.ref S.length) S2) xx) (g : GoV c r H q Q) (gx : GoX c r H σ xx) : wpAny (model X.prog X.w) X.A (call (.ref C) us) (EP X pins σ Q) X.xe s := by
  obtain ⟨fd, ps, dvs, ds, FF, hb, hd, hdd⟩ := F.ex
  have hy : H (s.heap.objs.size + 1) = none := I.hok.fresh (Nat.le_succ _)
  have hdx : H s.heap.objs.size = none := I.hok.fresh (Nat.le_refl _)
  have ne : s.heap.objs.size ≠ s.heap.objs.size + 1 := Nat.ne_of_lt (Nat.lt_succ_self _)
  obtain ⟨sm2, t2⟩ := Sim.ins2 (C := C) sm hy hdx ne (by rw [hc.mg]; exact hC)
  have I2 := Inv.made (C := C) I
  have rd2 : c.Rs (r ++ [s.heap.objs.size + 1]) (upd (upd H s.heap.objs.size (.own (s.heap.objs.size + 1))) (s.heap.objs.size + 1) (.ins C s.heap.objs.size [])) (.ref S.length :: dl) (.ref (s.heap.objs.size + 1) :: vs) :=
    .cons (.ref (by rw [← sm.len, List.getElem?_append_right (Nat.le_refl _)]; simp)) (rd.mono t2)
  have sp : spOf X.K X.mg u ((.ref (s.heap.objs.size + 1) :: vs) ++ dvs) (upd (upd H s.heap.objs.size (.own (s.heap.objs.size + 1))) (s.heap.objs.size + 1) (.ins C s.heap.objs.size [])) (fun v H2 => v = .non ∧ Q (.ref (s.heap.objs.size + 1)) H2) (WE c.W σ) := by
    refine call_of (dl := .ref S.length :: dl) hc.K hc.mg hdd sm2 rd2 h (fun d S' r' v H' hq t' sm' rd' => ?_) (gx.step t2)
    obtain ⟨rfl, hq⟩ := hq
    cases rd'
    refine ⟨rfl, g _ S' r' _ H' hq (t2.trans t') sm' (.ref (t'.ext _ _ ?_))⟩
    rw [← sm.len, List.getElem?_append_right (Nat.le_refl _)]; simp
  have r2 : Vals ((.ref (s.heap.objs.size + 1) :: vs) ++ dvs) ((Value.ref (s.heap.objs.size + 1) :: us) ++ ds) := Vals.append (.cons rfl rv) hd
  have hl : ((Value.ref (s.heap.objs.size + 1) :: us) ++ ds).length = ps.length := r2.length.symm.trans (FF.len _ _ _ _ sp)
  have hgd : (X.A.under (.builtin "type.__call__" ⟨.ref C :: us, []⟩)).guards = some [] := by
    have e : (X.A.under (.builtin "type.__call__" ⟨.ref C :: us, []⟩)).guards = X.A.guards := by
      first | rfl | simp [Around.under, Code.guards, pushGuards, Code.isGuard, guardIds]
    rw [e]; exact hc.gd
  refine wpAny_call (make_map (f := f) I.kIn M.makes M.init (beq_iff_eq.mp M.fn) (codeAny_mono (FF.run _ X.stack _ _ ⟨.ref (s.heap.objs.size + 1) :: us, []⟩ _ _ _ (WE c.W σ) (hc.room.make C us []) hgd (I2.env0.make C us []) (hb _ (.ref (s.heap.objs.size + 1) :: us) I2.kIn hl) r2 sp) fun rs s' hq' => ?_))
  cases rs with
  | error e => exact passAt hc.tk σ pins _ _ e s' I2 hq'
  | ok fl =>
    cases fl with
    | ret uv =>
      obtain ⟨v, H', I3, rv', ev, q3⟩ := I2.after hq'
      subst ev
      exact ⟨rv', ⟨V.ref (s.heap.objs.size + 1), H', I3, rfl, q3⟩⟩
    | next => exact hq'.elim
    | brk => exact hq'.elim
    | cont => exact hq'.elim
theorem me_make (M : Mk X.K C f) (F : Fn X k f u dd) (hc : CallOk X c (k + 1)) (hg : Gl X x) (hm : X.mg x = some (.ref C)) (ha : PA X (e :: es) (tA c mr))
    (hdb : (x == ("__debug__" : Str)) = false := by decide) (he : starEach (e :: es) X.env = (false, eval e X.env) :: starEach es X.env := by rfl) (hpl : (backTo pos (starEach es X.env)).any (·.1) = false := by rfl) :
    PE X (.Call (.Name x p) (e :: es) [] pos) (tE c (mMake x u dd mr)) := by
  refine ⟨fun pins s σ H Q I h => wpAny_Call_Name_kw (ld_glob I hg hm ?_ hdb)⟩
  obtain ⟨r, S, sd, q, xx, a, hm', g, gx⟩ := h
  refine PySem.W.callWith_K (h₀ := X.base) I.ok.mod.kin M.kp (thn (ha.run pos pins s σ H (fun vs H1 => ∃ r1 S1 dl, c.Sm r1 H1 S1 ∧ c.Rs r1 H1 dl vs ∧ u (.ref S1.length :: (dl ++ dd)) (S1 ++ [.ins x []]) (fun d S2 => d = .non ∧ q (.ref S1.length) S2) xx ∧ Stp r H r1 H1) I ⟨r, S, sd, _, xx, a, hm', fun dl S1 r1 vs H1 h t sm rd => ⟨r1, S1, dl, sm, rd, h, t⟩, gx⟩) fun us s1 ⟨vs, H1, I1, rr, z⟩ => ⟨I1.kIn, ?_⟩) he hpl
  obtain ⟨r1, S1, dl, sm, rd, hu, t⟩ := z
  exact run_mk M F hc hm I1 rr sm rd hu (g.step t) (gx.step t)
end
end Lw

namespace Lw
open PySem PySem.Spec PyProof.Rows L2

/-! ### what is walked -/
/-- the items, and what must hold of the store at each turn -/
structure Itm where
  items : List D
  ok : Sto → Prop
abbrev MI := Sg → Sto → (Itm → Sto → Prop) → QX → Prop
/-- the iterator J goes through these items -/
structure ItOk (c : Cn) (J : It) (it : Itm) (r0 : List Addr) (H0 : Hp) : Prop where
  go : ∀ i r H S, Wk r0 H0 r H → c.Sm r H S → it.ok S → i < it.items.length → J.go i H
  stop : ∀ i r H S, Wk r0 H0 r H → c.Sm r H S → it.ok S → i = it.items.length → J.stop i H
  yld : ∀ i d x r H H' S, Wk r0 H0 r H → c.Sm r H S → it.ok S → it.items[i]? = some d → J.yld i H x H' → Stp r H r H' ∧ c.Sm r H' S ∧ c.Rd r H' d x
def tI (c : Cn) (m : MI) : TI := fun s H R => ∃ r S sd q x, At c r S sd s H ∧ m sd S q x ∧ (∀ it S' r' H' J, q it S' → Stp r H r' H' → c.Sm r' H' S' → ItOk c J it r' H' → R J H') ∧ GoX c r H s x
section
variable {X : Cx} {c : Cn} {m ma mb : ME} {a b e tg : Expr} {es : List Expr} {mr : MA} {pos p : Pos}
theorem weakI {t t' : TI} (h : PI X tg e t) (w : ∀ s H R, t' s H R → t s H R) : PI X tg e t' := ⟨fun pins s o H R I q => h.run pins s o H R I (w _ _ _ q)⟩
/-- a list or a tuple -/
def miSeq (m : ME) : MI := fun sd S q x => m sd S (fun d S1 => match d with
  | .tup ds => q ⟨ds, fun _ => True⟩ S1
  | .ref n => (match S1[n]? with
    | some (.lst ds) => q ⟨ds, fun S2 => S2[n]? = some (.lst ds)⟩ S1
    | some (.frz ds) => q ⟨ds, fun S2 => S2[n]? = some (.frz ds)⟩ S1
    | _ => False)
  | _ => False) x
def miTup (m : ME) : MI := fun sd S q x => m sd S (fun d S1 => match d with
  | .tup ds => q ⟨ds, fun _ => True⟩ S1
  | _ => False) x
def miLst (m : ME) : MI := fun sd S q x => m sd S (fun d S1 => match d with
  | .ref n => (match S1[n]? with
    | some (.lst ds) => q ⟨ds, fun S2 => S2[n]? = some (.lst ds)⟩ S1
    | some (.frz ds) => q ⟨ds, fun S2 => S2[n]? = some (.frz ds)⟩ S1
    | _ => False)
  | _ => False) x
/-- the list that stands at a for a cell -/
theorem list_at {r : List Addr} {H : Hp} {S : Sto} {n : Nat} {a : Addr} {ds : List D} (sm : c.Sm r H S) (hr : r[n]? = some a) (h : S[n]? = some (.lst ds) ∨ S[n]? = some (.frz ds)) : ∃ vs, SqL c.K H a vs ∧ c.Rs r H ds vs := by
  rcases h with h | h
  · cases sm.obj _ _ _ h hr with
    | lst h1 h2 => exact ⟨_, .inl (.inl h1), h2⟩
  · cases sm.obj _ _ _ h hr with
    | frz h1 h2 => exact ⟨_, .inl (.inr ⟨_, h1⟩), h2⟩
theorem it_list {r0 : List Addr} {H0 : Hp} {n : Nat} {a : Addr} {ds : List D} {o : O} (ho : o = .lst ds ∨ o = .frz ds) (hr : r0[n]? = some a) : ItOk c (Itl c.K a) ⟨ds, fun S2 => S2[n]? = some o⟩ r0 H0 := by
  have key : ∀ r H S, Wk r0 H0 r H → c.Sm r H S → S[n]? = some o → ∃ vs, SqL c.K H a vs ∧ c.Rs r H ds vs := fun r H S t sm h => by
    refine list_at sm (t.ext _ _ hr) ?_
    rcases ho with rfl | rfl
    · exact .inl h
    · exact .inr h
  refine ⟨fun i r H S t sm h hi => ?_, fun i r H S t sm h hi => ?_, fun i d x r H H' S t sm h hd hy => ?_⟩
  · obtain ⟨vs, h1, h2⟩ := key r H S t sm h
    have hl : i < vs.length := by rw [← h2.length]; exact hi
    exact ⟨vs, vs[i], h1, List.getElem?_eq_getElem hl⟩
  · obtain ⟨vs, h1, h2⟩ := key r H S t sm h
    exact ⟨vs, h1, by rw [← h2.length, hi]; exact Nat.le_refl _⟩
  · obtain ⟨vs, h1, h2⟩ := key r H S t sm h
    obtain ⟨rfl, hy⟩ := hy
    obtain ⟨v, hv, rv⟩ := h2.get hd
    have e := hy vs h1
    rw [hv] at e; cases e
    exact ⟨Stp.refl, sm, rv⟩
theorem it_tup {r0 : List Addr} {H0 : Hp} {a : Addr} {ds : List D} {vs : List V} (h1 : SqT c.K H0 a vs) (h2 : c.Rs r0 H0 ds vs) : ItOk c (Itt c.K a) ⟨ds, fun _ => True⟩ r0 H0 := by
  refine ⟨fun i r H S t sm h hi => ?_, fun i r H S t sm h hi => ?_, fun i d x r H H' S t sm h hd hy => ?_⟩
  · have hl : i < vs.length := by rw [← h2.length]; exact hi
    exact ⟨vs, vs[i], t.sqT h1, List.getElem?_eq_getElem hl⟩
  · exact ⟨vs, t.sqT h1, by rw [← h2.length, hi]; exact Nat.le_refl _⟩
  · obtain ⟨rfl, hy⟩ := hy
    obtain ⟨v, hv, rv⟩ := h2.get hd
    have e := hy vs (t.sqT h1)
    rw [hv] at e; cases e
    exact ⟨Stp.refl, sm, rv.monoW t⟩
theorem pi_mlst (hK : c.K = X.K) (h : PE X e (tE c m)) : PI X tg e (tI c (miLst m)) := weakI (pi_list h) fun s H R z => by
  obtain ⟨r, S, sd, q, x, a, hm, g, gx⟩ := z
  refine ⟨r, S, sd, _, x, a, hm, fun d S1 r1 v H1 h1 t1 sm1 rd1 => ?_, gx⟩
  cases rd1 with
  | ref hr =>
    dsimp only at h1
    split at h1
    · rename_i ds hS
      obtain ⟨vs, q1, q2⟩ := list_at sm1 hr (.inl hS)
      exact ⟨_, rfl, ⟨vs, by rw [← hK]; exact q1⟩, by rw [← hK]; exact g _ S1 r1 H1 _ h1 t1 sm1 (it_list (.inl rfl) hr)⟩
    · rename_i ds hS
      obtain ⟨vs, q1, q2⟩ := list_at sm1 hr (.inr hS)
      exact ⟨_, rfl, ⟨vs, by rw [← hK]; exact q1⟩, by rw [← hK]; exact g _ S1 r1 H1 _ h1 t1 sm1 (it_list (.inr rfl) hr)⟩
    · exact h1.elim
  | _ => exact h1.elim
theorem pi_mtup (hK : c.K = X.K) (h : PE X e (tE c m)) : PI X tg e (tI c (miTup m)) := weakI (pi_tup h) fun s H R z => by
  obtain ⟨r, S, sd, q, x, a, hm, g, gx⟩ := z
  refine ⟨r, S, sd, _, x, a, hm, fun d S1 r1 v H1 h1 t1 sm1 rd1 => ?_, gx⟩
  cases rd1 with
  | tup hq rs => exact ⟨_, rfl, ⟨_, by rw [← hK]; exact hq⟩, by rw [← hK]; exact g _ S1 r1 H1 _ h1 t1 sm1 (it_tup hq rs)⟩
  | _ => exact h1.elim
/-! range -/
def rangeD (lo : Int) : Nat → List D
  | 0 => []
  | n + 1 => .int lo :: rangeD (lo + 1) n
theorem rangeD_len (n : Nat) : ∀ lo, (rangeD lo n).length = n := by
  induction n with
  | zero => intro _; rfl
  | succ n ih => intro lo; unfold rangeD; simp [ih]
theorem rangeD_get : ∀ (n : Nat) (lo : Int) (i : Nat) (d : D), (rangeD lo n)[i]? = some d → d = .int (lo + i)
  | 0, _, _, _, h => by unfold rangeD at h; simp at h
  | n + 1, lo, 0, d, h => by unfold rangeD at h; simp at h; rw [← h]; simp
  | n + 1, lo, i + 1, d, h => by
    unfold rangeD at h
    have e := rangeD_get n (lo + 1) i d (by simpa using h)
    rw [e]
    congr 1
    omega
theorem it_range {r0 : List Addr} {H0 : Hp} {lo : Int} {n : Nat} : ItOk c (Itr lo n) ⟨rangeD lo n, fun _ => True⟩ r0 H0 := by
  refine ⟨fun i r H S t sm h hi => ?_, fun i r H S t sm h hi => ?_, fun i d x r H H' S t sm h hd hy => ?_⟩
  · have := rangeD_len n lo
    show i < n
    simp only [this] at hi
    exact hi
  · have := rangeD_len n lo
    show n ≤ i
    simp only [this] at hi
    omega
  · obtain ⟨rfl, rfl⟩ := hy
    have e := rangeD_get n lo i d hd
    subst e
    exact ⟨Stp.refl, sm, .int _⟩
def miRange1 (m : MA) : MI := fun sd S q x => m sd S (fun ds S1 => match ds with
  | [.int j] => (-(2 ^ 62) ≤ j ∧ j < 2 ^ 62) ∧ q ⟨rangeD 0 j.toNat, fun _ => True⟩ S1
  | _ => False) x
def miRange2 (m : MA) : MI := fun sd S q x => m sd S (fun ds S1 => match ds with
  | [.int i, .int j] => (-(2 ^ 62) ≤ i ∧ i < 2 ^ 62 ∧ -(2 ^ 62) ≤ j ∧ j < 2 ^ 62) ∧ q ⟨rangeD i (j - i).toNat, fun _ => True⟩ S1
  | _ => False) x
theorem pi_mrange1 (h : ∀ {t : TA}, PA X es t → PI X tg e (iRng1 t)) (ha : PA X es (tA c mr)) : PI X tg e (tI c (miRange1 mr)) := weakI (h ha) fun s H R z => by
  obtain ⟨r, S, sd, q, x, a, hm, g, gx⟩ := z
  refine ⟨r, S, sd, _, x, a, hm, fun ds S1 r1 vs H1 h1 t1 sm1 rd1 => ?_, gx⟩
  split at h1
  · rename_i j
    cases rd1 with
    | cons h2 h3 =>
      cases h3
      cases h2
      exact ⟨j, rfl, h1.1.1, h1.1.2, g _ S1 r1 H1 _ h1.2 t1 sm1 it_range⟩
  · exact h1.elim
theorem pi_mrange2 (h : ∀ {t : TA}, PA X es t → PI X tg e (iRng2 t)) (ha : PA X es (tA c mr)) : PI X tg e (tI c (miRange2 mr)) := weakI (h ha) fun s H R z => by
  obtain ⟨r, S, sd, q, x, a, hm, g, gx⟩ := z
  refine ⟨r, S, sd, _, x, a, hm, fun ds S1 r1 vs H1 h1 t1 sm1 rd1 => ?_, gx⟩
  split at h1
  · rename_i i j
    cases rd1 with
    | cons h2 h3 =>
      cases h3 with
      | cons h3 h4 =>
        cases h4
        cases h2
        cases h3
        exact ⟨i, j, rfl, h1.1, g _ S1 r1 H1 _ h1.2 t1 sm1 it_range⟩
  · exact h1.elim
/-! a text, sign by sign -/
def signsD (z : Str) : List D := z.cps.toList.map fun n => .str ⟨#[n]⟩
def miStr (m : ME) : MI := fun sd S q x => m sd S (fun d S1 => match d with
  | .str z => q ⟨signsD z, fun _ => True⟩ S1
  | _ => False) x
end
/-! ### for -/
def forL (ok : Sto → Prop) (g : MG) (b : MS) (md : MEnds) : List D → Sg → Sto → Prop
  | [], sd, S => ok S ∧ md.nx sd S
  | d :: ds, sd, S => ok S ∧ g d sd S (fun sd1 S1 => b { md with nx := forL ok g b md ds, ct := forL ok g b md ds, bk := md.nx } sd1 S1)
def mFor (mi : MI) (g : MG) (b : MS) : MS := fun md sd S => mi sd S (fun it S1 => forL it.ok g b md it.items sd S1) (fun e S1 => md.ex e sd S1)
section
variable {X : Cx} {c : Cn} {mi : MI} {g : MG} {p : MS} {it tg : Expr} {sa : List Stmt} {pos : Pos}
theorem ms_for (hp : PassesOwn (model X.prog X.w) X.A X.env X.xe) (hc : X.calm = true) (hi : PI X tg it (tI c mi)) (hg : PG X tg (tGm c g)) (hb : PSs X sa (tS c p)) (hs : ∀ x, foldedSetIterable it X.env x = pure x := by intro _; rfl) : PS X (.For tg it sa [] pos) (tS c (mFor mi g p)) := weakS (ps_for hp hc hi hg hb hs) fun D s H z => by
  obtain ⟨r, S, sd, md, a, hm, gg⟩ := z
  refine ⟨r, S, sd, _, _, a, hm, fun im S1 r1 H1 J h1 t1 sm1 io => ?_, goX_of gg a.rel⟩
  refine ⟨fun i m s' H' => i + m = im.items.length ∧ ∃ r' S' sd', At c r' S' sd' s' H' ∧ Stp r1 H1 r' H' ∧ forL im.ok g p md (im.items.drop i) sd' S' ∧ EOk c r' H' md D,
    ⟨im.items.length, by omega, r1, S1, sd, a.step t1 sm1, Stp.refl, h1, gg.step t1⟩, fun i m s2 H2 w => ?_⟩
  obtain ⟨em, r2, S2, sd2, a2, t2, f2, g2⟩ := w
  cases m with
  | zero =>
    have e : im.items.drop i = [] := List.drop_of_length_le (by omega)
    rw [e] at f2
    exact .inl ⟨io.stop i r2 H2 S2 t2.toWk a2.sim f2.1 (by omega), g2.nx sd2 S2 r2 s2 H2 f2.2 Stp.refl a2.sim a2.rel⟩
  | succ m =>
    have hl : i < im.items.length := by omega
    rw [List.drop_eq_getElem_cons hl] at f2
    refine .inr ⟨io.go i r2 H2 S2 t2.toWk a2.sim f2.1 hl, fun s' H' => i + 1 + m = im.items.length ∧ ∃ r' S' sd', At c r' S' sd' s' H' ∧ Stp r1 H1 r' H' ∧ forL im.ok g p md (im.items.drop (i + 1)) sd' S' ∧ EOk c r' H' md D, fun s' H' w => ⟨m, Nat.lt_succ_self m, w⟩, fun x H3 hy => ?_⟩
    obtain ⟨t3, sm3, rd3⟩ := io.yld i _ x r2 H2 H3 S2 t2.toWk a2.sim f2.1 (List.getElem?_eq_getElem hl) hy
    have g3 := g2.step t3
    refine ⟨r2, S2, sd2, _, _, a2.step t3 sm3, rd3, f2.2, fun sd4 S4 r4 s4 H4 h4 t4 sm4 rl4 => ?_⟩
    have g4 := g3.step t4
    have t14 := (t2.trans t3).trans t4
    have hyp4 := c.st t4 (c.st t3 a2.hyp)
    refine ⟨r4, S4, sd4, _, ⟨sm4, rl4, hyp4⟩, h4, ⟨fun sd5 S5 r5 s5 H5 h5 t5 sm5 rl5 => ?_, g4.rt, g4.nx, fun sd5 S5 r5 s5 H5 h5 t5 sm5 rl5 => ?_, g4.ex⟩⟩
    · exact ⟨by omega, r5, S5, sd5, ⟨sm5, rl5, c.st t5 hyp4⟩, t14.trans t5, h5, g4.step t5⟩
    · exact ⟨by omega, r5, S5, sd5, ⟨sm5, rl5, c.st t5 hyp4⟩, t14.trans t5, h5, g4.step t5⟩
end
/-! ### comprehensions -/
def wipeD (sd : Sg) : List Nat → Sg
  | [] => sd
  | v :: vs => (wipeD sd vs).set v none
theorem RelG.wipe {K : PySem.W.Frag} {mg : Mg} {r : List Addr} {H : Hp} {sd : Sg} {s : L2.St} (g : RelG K mg r H sd s) : ∀ vs, RelG K mg r H (wipeD sd vs) (wipe s vs)
  | [] => g
  | v :: vs => by
    have ih := RelG.wipe g vs
    unfold wipeD L2.wipe
    refine ⟨by simp [ih.len], fun i d h => ?_⟩
    by_cases e : v = i
    · subst e
      by_cases hl : v < (wipeD sd vs).length
      · rw [List.getElem?_set_self hl] at h; cases h
      · rw [List.getElem?_eq_none (by simpa using hl)] at h; cases h
    · rw [List.getElem?_set_ne e] at h
      obtain ⟨x, hx, rx⟩ := ih.at_ i d h
      exact ⟨x, by rw [List.getElem?_set_ne e]; exact hx, rx⟩
/-- a target stores in these slots alone -/
def GOnly (vs : List Nat) (g : TG) : Prop := ∀ v s H Q Q', g v s H Q → (∀ s' H', wipe s' vs = wipe s vs → Q s' H' → Q' s' H') → g v s H Q'
def GsOnly (vs : List Nat) (g : TGs) : Prop := ∀ v s H Q Q', g v s H Q → (∀ s' H', wipe s' vs = wipe s vs → Q s' H' → Q' s' H') → g v s H Q'
theorem wipe_set {s : L2.St} {x : Option V} {i : Nat} : ∀ {vs : List Nat}, i ∈ vs → wipe (s.set i x) vs = wipe s vs
  | [], h => by simp at h
  | v :: vs, h => by
    unfold L2.wipe
    by_cases e : i ∈ vs
    · rw [wipe_set e]
    · have ei : i = v := by
        rcases List.mem_cons.mp h with h | h
        · exact h
        · exact absurd h e
      subst ei
      have : ∀ {us : List Nat}, i ∉ us → wipe (s.set i x) us = (wipe s us).set i x := by
        intro us
        induction us with
        | nil => intro _; rfl
        | cons u us ih =>
          intro hn
          unfold L2.wipe
          rw [ih (fun z => hn (List.mem_cons_of_mem _ z)), List.set_comm _ _ (fun z => hn (by rw [z]; exact List.mem_cons_self ..))]
      rw [this e, List.set_set]
theorem wipe_setN {s : L2.St} {i : Nat} : ∀ vs : List Nat, wipe (s.set i none) vs = (wipe s vs).set i none
  | [] => rfl
  | v :: vs => by
    unfold L2.wipe
    rw [wipe_setN vs]
    by_cases e : i = v
    · subst e; rfl
    · rw [List.set_comm _ _ e]
theorem wipe_idem {s : L2.St} : ∀ vs : List Nat, wipe (wipe s vs) vs = wipe s vs
  | [] => rfl
  | v :: vs => by
    show (wipe ((wipe s vs).set v none) vs).set v none = (wipe s vs).set v none
    rw [wipe_setN vs, wipe_idem vs, List.set_set]
theorem only_name {vs : List Nat} {i : Nat} (h : i ∈ vs) : GOnly vs (gName i) := fun v s H Q Q' q k => k _ _ (wipe_set h) q
theorem only_nil {vs : List Nat} : GsOnly vs gNil := fun v s H Q Q' q k => ⟨q.1, k _ _ rfl q.2⟩
theorem only_cons {vs : List Nat} {g : TG} {h : TGs} (a : GOnly vs g) (b : GsOnly vs h) : GsOnly vs (gCons g h) := fun v s H Q Q' q k => by
  obtain ⟨x, y, e, q⟩ := q
  exact ⟨x, y, e, a _ _ _ _ _ q fun s' H' e1 q1 => b _ _ _ _ _ q1 fun s2 H2 e2 q2 => k s2 H2 (e2.trans e1) q2⟩
theorem only_tup {vs : List Nat} {K : PySem.W.Frag} {n : Nat} {h : TGs} (b : GsOnly vs h) : GOnly vs (gTup K n h) := fun v s H Q Q' q k => by
  obtain ⟨a, xs, e, hq, l, q⟩ := q
  exact ⟨a, xs, e, hq, l, b _ _ _ _ _ q k⟩
/-- the layer's target and the one over trees -/
def GLe (c : Cn) (g : MG) (gg : TG) : Prop := ∀ v s H Q, tGm c g v s H Q → gg v s H Q
def GsLe (c : Cn) (g : MGs) (gg : TGs) : Prop := ∀ v s H Q, tGms c g v s H Q → gg v s H Q
section
variable {c : Cn}
theorem le_name {i : Nat} : GLe c (gmName i) (gName i) := fun v s H Q z => by
  obtain ⟨r, S, sd, d, k, a, rd, hg, n⟩ := z
  exact n _ S r _ H hg Stp.refl a.sim (a.rel.put rd)
theorem le_nil : GsLe c gmNil gNil := fun v s H Q z => by
  obtain ⟨r, S, sd, d, k, a, rd, hg, n⟩ := z
  cases rd with
  | nil => exact ⟨rfl, n sd S r s H hg Stp.refl a.sim a.rel⟩
  | cons _ _ => exact hg.elim
theorem le_cons {g : MG} {gg : TG} {h : MGs} {hh : TGs} (h1 : GLe c g gg) (h2 : GsLe c h hh) : GsLe c (gmCons g h) (gCons gg hh) := fun v s H Q z => by
  obtain ⟨r, S, sd, d, k, a, rd, hg, n⟩ := z
  cases rd with
  | nil => exact hg.elim
  | cons r1 r2 =>
    refine ⟨_, _, rfl, h1 _ _ _ _ ⟨r, S, sd, _, _, a, r1, hg, fun sd1 S1 ra s1 H1 h t sm rl => ?_⟩⟩
    exact h2 _ _ _ _ ⟨ra, S1, sd1, _, k, ⟨sm, rl, c.st t a.hyp⟩, r2.mono t, h, fun sd2 S2 rb s2 H2 h t2 => n sd2 S2 rb s2 H2 h (t.trans t2)⟩
theorem le_tup {K : PySem.W.Frag} {n : Nat} {h : MGs} {hh : TGs} (hK : c.K = K) (hs : GsLe c h hh) : GLe c (gmTup n h) (gTup K n hh) := fun v s H Q z => by
  obtain ⟨r, S, sd, d, kk, a, rd, hg, nn⟩ := z
  cases rd with
  | tup hq rs => exact ⟨_, _, rfl, by rw [← hK]; exact hq, by rw [← rs.length]; exact hg.1, hs _ _ _ _ ⟨r, S, sd, _, kk, a, rs, hg.2, nn⟩⟩
  | _ => exact hg.elim
end
/-- the block of a list comprehension: what is wished of exceptions within is nothing -/
abbrev Cn.blk (c : Cn) : Cn := ⟨c.K, c.mg, fun _ _ => True, fun _ _ => trivial, fun _ _ _ _ => False⟩
def noX : QX := fun _ _ => False
def compL (ok : Sto → Prop) (g : MG) (t : MT) (e : ME) (sd0 : Sg) (q : List D → Sto → Prop) : List D → List D → Sto → Prop
  | [], acc, S => ok S ∧ q acc S
  | d :: ds, acc, S => ok S ∧ g d sd0 S (fun sd1 S1 => t sd1 S1 (fun k S2 => if k = true then e sd1 S2 (fun y S3 => acc.length < sizeLine ∧ compL ok g t e sd0 q ds (acc ++ [y]) S3) noX else compL ok g t e sd0 q ds acc S2) noX)
def mtYes : MT := fun _ S q _ => q true S
def mComp (mi : MI) (vs : List Nat) (g : MG) (t : MT) (e : ME) : ME := fun sd S q x => mi sd S (fun it S1 => compL it.ok g t e (wipeD sd vs) (fun ys S2 => q (.ref S2.length) (S2 ++ [.lst ys])) it.items [] S1) x
section
variable {X : Cx} {c : Cn} {mi : MI} {g : MG} {t : MT} {e : ME}
/-- the list that is being made, at D, beside the cells -/
structure Mid (c : Cn) (r1 : List Addr) (H1 : Hp) (D : Addr) (acc : List Lw.D) (r : List Addr) (H : Hp) (S : Sto) : Prop where
  sim : c.Sm r H S
  new : D ∉ r
  old : H1 D = none
  at_ : ∃ vs, H D = some (.lst vs) ∧ c.Rs r H acc vs
  stp : Stp r1 H1 r H
/-- behind the end: the new list is a cell -/
theorem Mid.done {r1 r : List Addr} {H1 H : Hp} {D : Addr} {acc : List Lw.D} {S : Sto} (m : Mid c r1 H1 D acc r H S) : Stp r1 H1 (r ++ [D]) H ∧ c.Sm (r ++ [D]) H (S ++ [.lst acc]) := by
  obtain ⟨vs, hD, hvs⟩ := m.at_
  have t1 : Stp r1 H1 r H := m.stp
  have w : Wk r H (r ++ [D]) H := ⟨fun i a h => by
    have hl : i < r.length := (List.getElem?_eq_some_iff.mp h).1
    rw [List.getElem?_append_left hl]; exact h, fun _ _ h => h, fun _ _ _ h => h, fun _ _ h => h⟩
  refine ⟨⟨t1.toWk.trans w, fun a h q => ?_, t1.out⟩, by simp [m.sim.len], ?_, fun i o a h1 h2 => ?_⟩
  · rcases List.mem_append.mp h with h | h
    · exact t1.new a h q
    · have e : a = D := by simpa using h
      rw [e]; exact m.old
  · refine List.nodup_append.mpr ⟨m.sim.nd, by simp, fun a ha b hb e => ?_⟩
    have eb : b = D := by simpa using hb
    subst eb; subst e
    exact m.new ha
  · by_cases hl : i < S.length
    · have hl' : i < r.length := by rw [m.sim.len]; exact hl
      rw [List.getElem?_append_left hl] at h1
      rw [List.getElem?_append_left hl'] at h2
      exact (m.sim.obj i o a h1 h2).mono' w rfl fun _ h => h
    · have e : i = S.length := by
        have := (List.getElem?_eq_some_iff.mp h1).1
        simp at this; omega
      subst e
      rw [List.getElem?_append_right (Nat.le_refl _)] at h1
      rw [← m.sim.len, List.getElem?_append_right (Nat.le_refl _)] at h2
      simp at h1 h2
      subst h1; subst h2
      exact .lst hD (hvs.monoW w)
theorem Mid.go {r1 r r' : List Addr} {H1 H H' : Hp} {D : Addr} {acc : List Lw.D} {S S' : Sto} (m : Mid c r1 H1 D acc r H S) (t : Stp r H r' H') (sm : c.Sm r' H' S') : Mid c r1 H1 D acc r' H' S' := by
  obtain ⟨vs, hD, hvs⟩ := m.at_
  refine ⟨sm, fun h => ?_, m.old, ⟨vs, t.out D _ hD m.new, hvs.mono t⟩, m.stp.trans t⟩
  have z := t.new D h m.new
  rw [hD] at z; cases z
theorem Mid.put {r1 r : List Addr} {H1 H : Hp} {D : Addr} {acc : List Lw.D} {S : Sto} {vs : List V} {d : Lw.D} {v : V} (m : Mid c r1 H1 D acc r H S) (hD : H D = some (.lst vs)) (rd : c.Rd r H d v) : Mid c r1 H1 D (acc ++ [d]) r (upd H D (.lst (vs ++ [v]))) S := by
  obtain ⟨vs', hD', hvs⟩ := m.at_
  rw [hD] at hD'; cases hD'
  have ne : ∀ {b : Addr} {o : HO}, H b = some o → (∀ xs, o ≠ .lst xs) → b ≠ D := fun h q e => by
    rw [e, hD] at h; cases h
    exact q _ rfl
  have w : Wk r H r (upd H D (.lst (vs ++ [v]))) := ⟨fun _ _ h => h, fun a xs h => by rw [upd_ne (ne h (fun _ z => nomatch z))]; exact h, fun a o u h => by rw [upd_ne (ne h (fun _ z => nomatch z))]; exact h, fun a fs h => by rw [upd_ne (ne h (fun _ z => nomatch z))]; exact h⟩
  refine ⟨⟨m.sim.len, m.sim.nd, fun i o a h1 h2 => ?_⟩, m.new, m.old, ⟨_, upd_same, RelDs.append (hvs.monoW w) (.cons (rd.monoW w) .nil)⟩, ?_⟩
  · have na : a ≠ D := fun e => m.new (by rw [← e]; exact List.mem_iff_getElem?.mpr ⟨i, h2⟩)
    exact (m.sim.obj i o a h1 h2).mono' w (upd_ne na) fun dx h => by rw [upd_ne (ne h (fun _ z => nomatch z))]; exact h
  · refine ⟨⟨m.stp.ext, fun a xs h => ?_, fun a o u h => ?_, fun a fs h => ?_⟩, fun a h q => m.stp.new a h q, fun a o h q => ?_⟩
    · exact w.tup a xs (m.stp.tup a xs h)
    · exact w.frz a o u (m.stp.frz a o u h)
    · exact w.xd a fs (m.stp.xd a fs h)
    · rw [upd_ne (ne_of_none h m.old)]
      exact m.stp.out a o h q
/-- a target in a block: the layer's rule, that it keeps to the slots vs, that it follows the one over trees -/
structure BlkG (X : Cx) (c : Cn) (vs : List Nat) (tg : Expr) (g : MG) : Prop where
  ex : ∃ gg, PG X tg gg ∧ GOnly vs gg ∧ GLe c g gg
theorem tLc_of {vs : List Nat} {wi : TI} {gg : TG} (hw : ∀ s H R, tI c mi s H R → wi s H R) (ho : GOnly vs gg) (hl : GLe (Cn.blk c) g gg) : ∀ s H Q, tE c (mComp mi vs g t e) s H Q → tLc wi gg (tT (Cn.blk c) t) (tE (Cn.blk c) e) vs s H Q := fun s H Q z => by
  obtain ⟨r, S, sd, q, x, a, hm, gv, gx⟩ := z
  refine hw _ _ _ ⟨r, S, sd, _, x, a, hm, fun im S1 r1 H1 J h1 t1 sm1 io D hD => ?_, gx⟩
  have rel1 := (a.rel.mono t1).wipe vs
  refine ⟨fun i m H' => i + m = im.items.length ∧ ∃ r' S' acc, Mid c r1 H1 D acc r' H' S' ∧ compL im.ok g t e (wipeD sd vs) (fun ys S2 => q (.ref S2.length) (S2 ++ [.lst ys])) (im.items.drop i) acc S',
    ⟨im.items.length, by omega, r1, S1, [], ⟨sm1.laid hD, sm1.fresh hD, hD, ⟨[], upd_same, .nil⟩, Stp.laid hD⟩, h1⟩, fun i m H2 w => ?_⟩
  obtain ⟨em, r2, S2, acc, md2, f2⟩ := w
  cases m with
  | zero =>
    have e0 : im.items.drop i = [] := List.drop_of_length_le (by omega)
    rw [e0] at f2
    obtain ⟨tD, smD⟩ := md2.done
    exact .inl ⟨io.stop i r2 H2 S2 md2.stp.toWk md2.sim f2.1 (by omega), gv _ _ _ _ _ f2.2 (t1.trans tD) smD (.ref (by rw [← md2.sim.len, List.getElem?_append_right (Nat.le_refl _)]; simp))⟩
  | succ m =>
    have hl2 : i < im.items.length := by omega
    rw [List.drop_eq_getElem_cons hl2] at f2
    refine .inr ⟨io.go i r2 H2 S2 md2.stp.toWk md2.sim f2.1 hl2, fun H' => i + 1 + m = im.items.length ∧ ∃ r' S' acc, Mid c r1 H1 D acc r' H' S' ∧ compL im.ok g t e (wipeD sd vs) (fun ys S2 => q (.ref S2.length) (S2 ++ [.lst ys])) (im.items.drop (i + 1)) acc S',
      fun H' w => ⟨m, Nat.lt_succ_self m, w⟩, fun xv H3 hy => ?_⟩
    obtain ⟨t3, sm3, rd3⟩ := io.yld i _ xv r2 H2 H3 S2 md2.stp.toWk md2.sim f2.1 (List.getElem?_eq_getElem hl2) hy
    have md3 := md2.go t3 sm3
    have a3 : At (Cn.blk c) r2 S2 (wipeD sd vs) (wipe s vs) H3 := ⟨sm3, rel1.mono md3.stp, trivial⟩
    refine ho _ _ _ _ _ (hl _ _ _ _ ⟨r2, S2, _, _, (fun sd4 S4 => t sd4 S4 (fun k S2 => if k = true then e sd4 S2 (fun y S3 => acc.length < sizeLine ∧ compL im.ok g t e (wipeD sd vs) (fun ys S2 => q (.ref S2.length) (S2 ++ [.lst ys])) (im.items.drop (i + 1)) (acc ++ [y]) S3) noX else compL im.ok g t e (wipeD sd vs) (fun ys S2 => q (.ref S2.length) (S2 ++ [.lst ys])) (im.items.drop (i + 1)) acc S2) noX), a3, rd3, f2.2, fun sd4 S4 r4 s4 H4 h4 t4 sm4 rl4 => (⟨r4, S4, sd4, h4, t4, sm4, rl4⟩ : ∃ r4 S4 sd4, t sd4 S4 (fun k S2 => if k = true then e sd4 S2 (fun y S3 => acc.length < sizeLine ∧ compL im.ok g t e (wipeD sd vs) (fun ys S2 => q (.ref S2.length) (S2 ++ [.lst ys])) (im.items.drop (i + 1)) (acc ++ [y]) S3) noX else compL im.ok g t e (wipeD sd vs) (fun ys S2 => q (.ref S2.length) (S2 ++ [.lst ys])) (im.items.drop (i + 1)) acc S2) noX ∧ Stp r2 H3 r4 H4 ∧ c.Sm r4 H4 S4 ∧ RelG c.K c.mg r4 H4 sd4 s4)⟩) fun s4 H4 ew q4 => ?_
    obtain ⟨r4, S4, sd4, h4, t4, sm4, rl4⟩ := q4
    have md4 := md3.go t4 sm4
    refine ⟨ew.trans (wipe_idem vs), r4, S4, sd4, _, noX, ⟨sm4, rl4, trivial⟩, h4, fun k S5 r5 H5 h5 t5 sm5 => ?_, fun e S' r' H' cls dd h _ _ _ => h.elim⟩
    have md5 := md4.go t5 sm5
    cases k with
    | false => exact iteF ⟨by omega, r5, S5, acc, md5, h5⟩
    | true =>
      refine iteT ⟨r5, S5, sd4, _, noX, ⟨sm5, rl4.mono t5, trivial⟩, h5, fun y S6 r6 v6 H6 h6 t6 sm6 rd6 => ?_, fun e S' r' H' cls dd h _ _ _ => h.elim⟩
      have md6 := md5.go t6 sm6
      obtain ⟨vs6, hD6, rv6⟩ := md6.at_
      refine ⟨vs6, hD6, by rw [← rv6.length]; exact h6.1, by omega, r6, S6, acc ++ [y], md6.put hD6 rd6, h6.2⟩
theorem me_lc {elt tg iter : Expr} {ifs : List Expr} {scope : Scope} {own : List (Str × Nat)} {pos : Pos} {gg : TG} (hc : X.calm = true) (hN : X.N.Nodup) (hi : PI X tg iter (tI c mi)) (ok : BlkOk X.N X.env.scope scope own) (ho : GOnly (own.map (·.2)) gg) (hl : GLe (Cn.blk c) g gg)
    (hg : ∀ (s : Shared) (H : Hp) (C : Addr) (cl : List (Str × Addr)) (fp : List Addr), PG (X.blk s H scope (compEnvC scope cl C X.env) fp) tg gg)
    (ht : ∀ (s : Shared) (H : Hp) (C : Addr) (cl : List (Str × Addr)) (fp : List Addr), PTs (X.blk s H scope (compEnvC scope cl C X.env) fp) ifs (tT (Cn.blk c) t))
    (he : ∀ (s : Shared) (H : Hp) (C : Addr) (cl : List (Str × Addr)) (fp : List Addr), PE (X.blk s H scope (compEnvC scope cl C X.env) fp) elt (tE (Cn.blk c) e)) (hs : ∀ x, foldedSetIterable iter X.env x = pure x := by intro _; rfl) :
    PE X (.ListComp elt [⟨tg, iter, ifs, 0⟩] scope pos) (tE c (mComp mi (own.map (·.2)) g t e)) := weakE (pe_lc hc hN hi ok hg ht he hs) (tLc_of (fun _ _ _ z => z) ho hl)
theorem mts_nil : PTs X [] (tT c mtYes) := ⟨fun pins s o H Q I h => by
  obtain ⟨r, S, sd, q, x, a, hm, g, gx⟩ := h
  exact pts_nil.run pins s o H Q I (g true S r H hm Stp.refl a.sim)⟩
/-- name = [..] -/
theorem ms_setLc {i : Nat} {y : Str} {py : Pos} {elt tg iter : Expr} {ifs : List Expr} {scope : Scope} {own : List (Str × Nat)} {pos spos : Pos} {gg : TG} (hc : X.calm = true) (hN : X.N.Nodup) (hy : X.N[i]? = some y) (hyl : X.env.scope.names.lookup y = some .local)
    (hsw : swapsWith (.ListComp elt [⟨tg, iter, ifs, 0⟩] scope pos) (some (.Name y py)) spos.line X.env = pure true) (hi : PI X tg iter (tI c mi)) (ok : BlkOk X.N X.env.scope scope own) (ho : GOnly (own.map (·.2)) gg) (hl : GLe (Cn.blk c) g gg)
    (hg : ∀ (s : Shared) (H : Hp) (C : Addr) (cl : List (Str × Addr)) (fp : List Addr), PG (X.blk s H scope (compEnvC scope cl C X.env) fp) tg gg)
    (ht : ∀ (s : Shared) (H : Hp) (C : Addr) (cl : List (Str × Addr)) (fp : List Addr), PTs (X.blk s H scope (compEnvC scope cl C X.env) fp) ifs (tT (Cn.blk c) t))
    (he : ∀ (s : Shared) (H : Hp) (C : Addr) (cl : List (Str × Addr)) (fp : List Addr), PE (X.blk s H scope (compEnvC scope cl C X.env) fp) elt (tE (Cn.blk c) e)) (hs : ∀ x, foldedSetIterable iter X.env x = pure x := by intro _; rfl) :
    PS X (.Assign [.Name y py] (.ListComp elt [⟨tg, iter, ifs, 0⟩] scope pos) spos) (tS c (mAsg (mComp mi (own.map (·.2)) g t e) (gmName i))) := weakS (ps_setLc hc hN hy hyl hsw hi ok hg ht he hs) fun D s H z => by
  obtain ⟨r, S, sd, md, a, hm, gk⟩ := z
  refine tLc_of (c := c) (fun _ _ _ z => z) ho hl s H _ ⟨r, S, sd, _, _, a, hm, fun d S1 r1 v H1 h t sm rd => ?_, goX_of gk a.rel⟩
  exact gk.nx _ S1 r1 _ H1 h t sm ((a.rel.mono t).put rd)
end
end Lw

namespace Lw
open PySem PySem.Spec PyProof.Rows L2

/-! ### own exception classes over any built-in base -/
/-- own classes, then the base's chain -/
inductive RefsT (T : List Value) : List Value → Prop
  | tail : RefsT T T
  | cons {C : Addr} {l : List Value} (h : RefsT T l) : RefsT T (.ref C :: l)
/-- a built-in base -/
structure EBase (B nw ini : String) (T : List Value) : Prop where
  F : ExcBaseFacts B nw ini T
  pass : ∀ self, refuseLoop self "__setattr__" T = pure ()
  obj : T.contains (.type "object") = true
theorem RefsT.pass {B nw ini : String} {T l : List Value} (E : EBase B nw ini T) (self : Value) (h : RefsT T l) : refuseLoop self "__setattr__" l = pure () := by
  induction h with
  | tail => exact E.pass self
  | cons _ ih => rw [refuseLoop_ref]; exact ih
theorem RefsT.has {T l : List Value} (X : String) (h : RefsT T l) : l.contains (.type X) = T.contains (.type X) := by
  induction h with
  | tail => rfl
  | cons _ ih => rw [List.contains_cons, ih]; rfl
theorem RefsT.ne {B nw ini : String} {T l : List Value} (E : EBase B nw ini T) (h : RefsT T l) : l.isEmpty = false := by
  cases h with
  | tail =>
    cases T with
    | nil => exact absurd E.obj (by decide)
    | cons _ _ => rfl
  | cons _ => rfl
/-- what the written part says of such a class -/
structure ExC (K : PySem.W.Frag) (B nw ini : String) (T : List Value) (C : Addr) : Prop where
  base : EBase B nw ini T
  cls : ∃ nm q N bs bm sn sub ab col dd k0 k1 k2 k3 k5, K.lookup C = some (excClassObj nm q C N bs bm true sn sub ab col dd k0 k1 k2 k3 k5 nw) ∧ RefsT T bm
  sa : PySem.W.findIn K (.ref C) "__setattr__" = some (some (.builtin "object.__setattr__"))
  exC : PySem.W.subIn K (.ref C) (.type "BaseException") = some true
  tyC : PySem.W.typeIn K (.ref C) = some (.type "type")
  kC : PySem.W.keepIn K (.ref C) = true
section
open PySem.W PySem.HandSPX Builtin Builtin.ObjectAttr
variable {prog : Program} {w : World} {A : Around} {E : Value → Shared → Prop} {R : Result → Shared → Prop} {hp : Heap} {g : Array GenState} {d : Drawn} {t : Nat} {os : OsState} {B nw ini : String} {T : List Value}
/-- a field stored into an exception: what is common to the first one and a further one -/
theorem esa_core {K : Frag} {name : Str} {tk : Tok} {v : Value} {x C : Addr} {ox : Obj} {cd : ClassData} (EB : EBase B nw ini T) (X : K.In hp) (hx : hp.get? x = some ox) (hc : ox.cls = .ref C) (hcd : clsIn K C = some cd) (hm : RefsT T cd.mro)
    (ha : findIn K (.ref C) name = some none) (hq : wpAny (model prog w) A.in1 (storeInOwnDict (.ref x) (.ref C) (.str name tk) name v false) (fun fin s' => match fin with
      | .done f => R (.ok f) s'
      | .again c' => c'.quiet = true ∧ codeAny (model prog w) A c' R s') (fun e s' => R (.error e) s') ⟨hp, g, d, t, os⟩) :
    codeAny (model prog w) A (.call (.builtin "object.__setattr__") ⟨[.ref x, .str name tk, v], []⟩) R ⟨hp, g, d, t, os⟩ := by
  have SF := F.store_object
  have ne := hm.ne EB
  have hob : cd.mro.contains (.type "object") = true := (hm.has "object").trans EB.obj
  have ty : Looks (model prog w) hp (typeOf (.ref x)) (.ref C) := fun A' Q' E' s' k q => wpAny_typeOf_ref (k _ _ hx) (by rw [hc]; exact q)
  have sub : Looks (model prog w) hp (isInstance (.ref x) (.type "object")) true := ty.andThen (looks_mroIn X (by unfold mroIn; rw [hcd, Option.bind_some, if_neg (by rw [ne]; decide), hob]))
  refine codeAny_call_builtin SF.slot.plain SF.entry (@check_slot (model prog w) _ _ ⟨hp, g, d, t, os⟩ "object.__setattr__" "object" "__setattr__" (.ref x) [.str name tk, v] [] _ SF.kind SF.split sub (SF.args (.ref x) (.str name tk) v) ?_)
  have hmr : Looks (model prog w) hp (mroOf (.ref C)) cd.mro := (looks_clsIn X hcd).andThen .now
  have L3 : Looks (model prog w) hp (storeTaker? none) none := .now
  rw [osa_eq, refuse_eq]
  refine wpAny_bind (wpAny_bind (ty.at (wpAny_bind (hmr.at ?_))))
  rw [hm.pass EB]
  refine wpAny_pure (wpAny_bind (ty.at (wpAny_bind ((looks_findIn X ha).at (wpAny_bind (L3.at ?_))))))
  exact hq
theorem esa_new {K : Frag} {name : Str} {tk : Tok} {v : Value} {x C : Addr} {fv : Array Value} {cd : ClassData} (EB : EBase B nw ini T)
    (X : K.In hp) (hx : hp.get? x = some { cls := .ref C, data := .fields fv }) (hcd : clsIn K C = some cd) (hm : RefsT T cd.mro) (hh : cd.hasDict = true) (ha : findIn K (.ref C) name = some none)
    (hq : ∀ h' tk' dx, (∀ b o, b ≠ x → hp.get? b = some o → h'.get? b = some o) → hp.objs.size ≤ dx → dx ≠ x → h'.get? x = some { cls := .ref C, dict := some dx, data := .fields fv } →
      h'.Ns1 dx (fun y => if y = name then some v else none) → R (.ok (.ret .none)) ⟨h', g, d, tk', os⟩) :
    codeAny (model prog w) A (.call (.builtin "object.__setattr__") ⟨[.ref x, .str name tk, v], []⟩) R ⟨hp, g, d, t, os⟩ := by
  have hxs : x ≠ hp.objs.size := Nat.ne_of_lt (Heap.lt_size hx)
  have hcls : Looks (model prog w) hp (classData C) cd := looks_clsIn X hcd
  refine esa_core EB X hx rfl hcd hm ha ?_
  obtain ⟨nm, bs, mro, ns, qn, hd, sn, sb, ab, col, del⟩ := cd
  dsimp only at hh
  subst hh
  unfold storeInOwnDict ownDictForStores
  repeat (first | with_reducible refine store_in_new ?_ ?_ | with_reducible refine wpAny_loadPart_at hx ?_ | with_reducible refine hcls.at ?_ | wp_step)
  · exact ⟨_, #[], _, (Heap.get?_update_ne _ _ _ _ hxs.symm).trans (Heap.get?_push_at rfl rfl), rfl, fun e he => absurd he (by simp), fun _ => rfl⟩
  · intro h' tk' hn' hs
    have hx1 : (hp.push { cls := .type "dict", data := .dict #[] }).get? x = some { cls := .ref C, data := .fields fv } := Heap.get?_push_of_some _ hx
    refine hq h' tk' hp.objs.size (fun b o hb ho => ?_) (Nat.le_refl _) hxs.symm ?_ hn'
    · exact (hs.2 b (Nat.ne_of_lt (Heap.lt_size ho))).trans ((Heap.get?_update_ne _ _ _ _ hb).trans (Heap.get?_push_of_some _ ho))
    · exact (hs.2 x hxs).trans (Heap.get?_update_self _ hx1 rfl)
theorem esa_old {K : Frag} {name : Str} {tk : Tok} {v : Value} {x C dx : Addr} {fv : Array Value} {cd : ClassData} {m0 : Str → Option Value} {nl : List Str} (EB : EBase B nw ini T)
    (X : K.In hp) (hx : hp.get? x = some { cls := .ref C, dict := some dx, data := .fields fv }) (hns : hp.Ns1 dx m0) (hw : Within m0 nl) (hz : nl.length ≤ 1000) (hcd : clsIn K C = some cd) (hm : RefsT T cd.mro) (hh : cd.hasDict = true)
    (ha : findIn K (.ref C) name = some none)
    (hq : ∀ h' tk', (∀ b o, b ≠ dx → hp.get? b = some o → h'.get? b = some o) → h'.Ns1 dx (fun y => if y = name then some v else m0 y) → R (.ok (.ret .none)) ⟨h', g, d, tk', os⟩) :
    codeAny (model prog w) A (.call (.builtin "object.__setattr__") ⟨[.ref x, .str name tk, v], []⟩) R ⟨hp, g, d, t, os⟩ := by
  have hcls : Looks (model prog w) hp (classData C) cd := looks_clsIn X hcd
  refine esa_core EB X hx rfl hcd hm ha ?_
  obtain ⟨nm, bs, mro, ns, qn, hd, sn, sb, ab, col, del⟩ := cd
  dsimp only at hh
  subst hh
  unfold storeInOwnDict ownDictForStores
  repeat (first | with_reducible refine PySem.OEX.store_in_old hns hw hz ?_ | with_reducible refine wpAny_loadPart_at hx ?_ | with_reducible refine hcls.at ?_ | wp_step)
  intro h' tk' hn' hs
  exact hq h' tk' (fun b o hb ho => (hs.2 b hb).trans ho) hn'
end
section
variable {X : Cx} {pins : List (Addr × Obj)} {σ : L2.St} {H : Hp} {s : Shared} {a C dx : Addr} {f : Str} {y : V} {u : Value} {fs : List (Str × V)} {Q : Unit → Shared → Prop} {E : Value → Shared → Prop} {A : Around} {B nw ini : String} {T : List Value}
theorem ExC.cd {K : PySem.W.Frag} (x : ExC K B nw ini T C) : ∃ cd, PySem.W.clsIn K C = some cd ∧ RefsT T cd.mro ∧ cd.hasDict = true := by
  obtain ⟨nm, q, N, bs, bm, sn, sub, ab, col, dd, k0, k1, k2, k3, k5, hC, hbm⟩ := x.cls
  refine ⟨{ name := nm, bases := bs, mro := .ref C :: bm, ns := N, qualname := q, hasDict := true, slotNames := sn, subclasses := sub, abstract := ab, collection := col, hasDel := false }, ?_, .cons hbm, rfl⟩
  unfold PySem.W.clsIn
  rw [hC] <;> rfl
/-- self.f = y, the first field -/
theorem est_new (T' : ExC X.K B nw ini T C) (I : Inv X pins σ H s) (e : H a = some (exo a C none)) (hno : PySem.W.findIn X.K (.ref C) f = some none) (ry : RelV y u)
    (h : ∀ dx s', H dx = none → dx ≠ a → Inv X pins σ (upd (upd H dx (exd dx [(f, y)])) a (exo a C (some dx))) s' → Q () s') : wpAny (model X.prog X.w) A (setAttr (.ref a) f u) Q E s := by
  obtain ⟨cd, hcl, hm, hh⟩ := T'.cd
  obtain ⟨t1, ho⟩ := exo_at I.hok e
  obtain ⟨hp, g, d, t, os⟩ := s
  refine PySem.W.set_plain I.kIn (ox := { cls := .ref C, dict := none, data := .fields #[.ref t1, .none, .none, .none, .bool false, .none] }) (od := none) ⟨ho, rfl, rfl, trivial⟩ T'.sa ?_
  refine esa_new T'.base I.kIn ho hcl hm hh hno (fun h' tk' dx k dn dne hx hn => ?_)
  have hnd : H dx = none := I.hok.fresh dn
  have nd : ∀ {b : Addr} {o : Obj}, hp.get? b = some o → b ≠ dx := fun q => Nat.ne_of_lt (Nat.lt_of_lt_of_le (Heap.lt_size q) dn)
  have na : ∀ {b : Addr}, H b = none → b ≠ a := fun n z => by rw [z, e] at n; cases n
  have U : Un X.fs [] H (upd (upd H dx (exd dx [(f, y)])) a (exo a C (some dx))) hp h' := by
    refine ⟨fun b o q n _ _ => k b o (na n) q, fun b o q n _ _ => ⟨o.slots, k b o (na n) q⟩, fun b o q n _ => by rw [upd_ne (na n), upd_ne (nd q)]; exact n, fun b o q _ => ?_, fun b xs q => ?_, fun b o v q => ?_, fun b ps q => ⟨#[], ?_⟩⟩
    · by_cases hb : b = a
      · exact ⟨_, by rw [hb]; exact hx⟩
      · exact ⟨o, k b o hb q⟩
    · rw [upd_ne (at_ne e q exo_tup), upd_ne (ne_of_none q hnd)]; exact q
    · rw [upd_ne (at_ne e q exo_frz), upd_ne (ne_of_none q hnd)]; exact q
    · rw [upd_ne (at_ne e q exo_tbl), upd_ne (ne_of_none q hnd), q]; simp
  refine h dx _ hnd dne (I.un (t' := tk') U fun b o q => ?_)
  by_cases hb : b = a
  · subst hb
    rw [upd_same] at q; cases q
    exact exo_ok hx
  rw [upd_ne hb] at q
  by_cases hd : b = dx
  · subst hd
    rw [upd_same] at q; cases q
    exact exd_ok hn (relO_put (fs := []) ry fun g => True.intro)
  rw [upd_ne hd] at q
  refine (I.hok b o q).stay (fun c v hc z => k c v ?_ z) (fun c hc => by rw [upd_ne (at_ne e hc exo_own), upd_ne (ne_of_none hc hnd)]; exact hc) fun c xs hc => by rw [upd_ne (at_ne e hc exo_tup), upd_ne (ne_of_none hc hnd)]; exact hc
  rcases hc with hc | hc
  · rw [hc]; exact hb
  · exact at_ne e hc exo_own
/-- self.f = y, a further one -/
theorem est_old (T' : ExC X.K B nw ini T C) (I : Inv X pins σ H s) (e : H a = some (exo a C (some dx))) (ed : H dx = some (exd dx fs)) (hl : fs.length ≤ 900) (hno : PySem.W.findIn X.K (.ref C) f = some none) (ry : RelV y u)
    (h : ∀ s', Inv X pins σ (upd H dx (exd dx ((f, y) :: fs))) s' → Q () s') : wpAny (model X.prog X.w) A (setAttr (.ref a) f u) Q E s := by
  obtain ⟨cd, hcl, hm, hh⟩ := T'.cd
  obtain ⟨t1, ho⟩ := exo_at I.hok e
  obtain ⟨mA, hns, rel⟩ := exd_at I.hok ed
  have hw := within_of rel
  obtain ⟨hp, g, d, t, os⟩ := s
  obtain ⟨oD, _, _, hoD, _, _⟩ := hns.count hw
  refine PySem.W.set_plain I.kIn (ox := { cls := .ref C, dict := some dx, data := .fields #[.ref t1, .none, .none, .none, .bool false, .none] }) (od := some oD) ⟨ho, rfl, rfl, hoD⟩ T'.sa ?_
  refine esa_old T'.base I.kIn ho hns hw (by rw [List.length_map]; omega) hcl hm hh hno (fun h' tk' k hn => ?_)
  obtain ⟨o, _, _, e', _⟩ := id hn
  exact h _ (I.write (t' := tk') (x := dx) (e := dx) (o := exd dx ((f, y) :: fs)) (by rw [ed]; exact True.intro) (.inl rfl) k ⟨o, e'⟩ (exd_ok hn (relO_put ry rel)))
/-- the base's own __init__ -/
theorem eini_ok {us : List Value} {Q : Value → Shared → Prop} (T' : ExC X.K B nw ini T C) (I : Inv X pins σ H s) (e : H a = some (exo a C none)) (hl : us.length ≤ sizeLine) (h : ∀ s', Inv X pins σ H s' → Q .none s') :
    wpAny (model X.prog X.w) A (call (.builtin ini) (.ref a :: us)) Q E s := by
  obtain ⟨nm, q, N, bs, bm, sn, sub, ab, col, dd, k0, k1, k2, k3, k5, hC, hbm⟩ := T'.cls
  obtain ⟨t1, ho⟩ := exo_at I.hok e
  obtain ⟨hp, g, d, t, os⟩ := s
  refine wpAny_call (PySem.HandSPX.init_base T'.base.F (fun Y => hbm.has Y) (I.kIn _ _ hC) ho hl fun h' t2 k hx => ?_)
  have J := I.write (t' := t) (x := a) (e := a) (o := exo a C none) (by rw [e]; exact True.intro) (.inl rfl) k ⟨_, hx⟩ (exo_ok hx)
  have eu : upd H a (exo a C none) = H := by
    funext b
    by_cases hb : b = a
    · rw [hb, upd_same, e]
    · rw [upd_ne hb]
  rw [eu] at J
  exact h _ J
end
/-! ### the __init__ of such a class, as it stands in a text: B.__init__(self, text), self.f = g, .. -/
/-- what it promises: the fields, the last one first -/
def spInit (C : Addr) (names : List Str) : Sp := fun vs H Q _ => ∃ a ws, vs = .ref a :: ws ∧ ws.length = names.length ∧ H a = some (exo a C none) ∧
  ∀ d, H d = none → d ≠ a → Q .non (upd (upd H d (exd d (names.zip ws).reverse)) a (exo a C (some d)))
section
variable {X : Cx} {o e : Expr} {es : List Expr} {to te : TE} {ta : TA} {f : Str} {p p' p1 p2 pos : Pos} {B nw ini : String} {T : List Value} {C : Addr}
/-- B.__init__(self, ..), B an own class or the built-in one -/
def tEI (C : Addr) (ta : TA) : TE := fun σ H Q => ta σ H fun vs H1 => ∃ (a : Addr) (ws : List V), vs = .ref a :: ws ∧ ws.length ≤ 1000 ∧ H1 a = some (exo a C none) ∧ Q .non H1
/-- how the base's name gives its __init__ -/
structure BaseIni (K : PySem.W.Frag) (mg : Mg) (bn : Str) (ini : String) : Prop where
  ex : (∃ D : Addr, mg bn = some (.ref D) ∧ PySem.W.readsIn K D (.type "type") = true ∧ PySem.W.specialIn K (.ref D) "__getattribute__" = some (some (.builtin "type.__getattribute__")) ∧ PySem.W.findCls K (.ref D) (.type "type") "__init__" = some (.val (.builtin ini))) ∨
    (∃ B : String, mg bn = none ∧ bootBuiltins bn = some (.type B) ∧ bn ≠ "__name__" ∧ typeOf (.type B) = pure (.type "type") ∧ Manifest.isStub B = false ∧ PySem.W.findCls K (.type B) (.type "type") "__init__" = some (.val (.builtin ini)))
  hd : PySem.W.handedIn (.builtin ini) = true
theorem pe_eini {pl : Sem Bool} {bn : Str} (TC : ExC X.K B nw ini T C) (BI : BaseIni X.K X.mg bn ini) (hg : Gl X bn) (hdb : (bn == ("__debug__" : Str)) = false) (ha : PA X (e :: es) ta)
    (hc : eval (.Call (.Attribute (.Name bn p1) "__init__" p2) (e :: es) [] pos) X.env = (do
      let ov ← eval (.Name bn p1) X.env
      standAt p2.atName
      let (f, first) ← holding [ov] (getMethod ov "__init__" pl)
      callWith pos f first (backTo pos (starEach (e :: es) X.env)) (backToKw pos (keywordEach [] X.env))) := by rfl)
    (he : starEach (e :: es) X.env = (false, eval e X.env) :: starEach es X.env := by rfl) (hpl : (backTo pos (starEach es X.env)).any (·.1) = false := by rfl) :
    PE X (.Call (.Attribute (.Name bn p1) "__init__" p2) (e :: es) [] pos) (tEI C ta) := by
  refine ⟨fun pins s σ H Q I h => ?_⟩
  have fin : ∀ s0, Inv X pins σ H s0 → wpAny (model X.prog X.w) X.A (callWith pos (Value.builtin ini) [] (backTo pos (starEach (e :: es) X.env)) (backToKw pos (keywordEach [] X.env))) (EP X pins σ Q) X.xe s0 := fun s0 I0 => by
    refine PyProof.Rows.callWith_method1 (thn (ha.run pos pins _ σ H _ I0 h) fun us s1 ⟨vs, H1, I1, r1, a, ws, ev, hl, ea, q⟩ => ?_) he hpl
    subst ev
    cases r1 with
    | @cons _ u0 _ ur ra rw' =>
      obtain rfl : u0 = Value.ref a := ra
      exact eini_ok TC I1 ea (by rw [← Paired.length rw', sizeLine_eq]; omega) fun s' J => ⟨.non, H1, J, rfl, q⟩
  rcases BI.ex with ⟨D, hm, hr, hs, hv⟩ | ⟨B', hm, hv, hn, hty, hst, hf⟩
  · refine PySem.W.methodCall_KW (ld_glob I hg hm ?_ hdb) hc
    exact PySem.W.method_cls I.kIn hs (PySem.W.cls_value I.kIn hr hv BI.hd (fin _ (I.tok _)))
  · refine PySem.W.methodCall_KW (ld_blt I hg hm hv ?_ hn hdb) hc
    obtain ⟨m, fr⟩ := I.fr
    exact PySem.W.method_type fr I.ok.mod.kin hty hst hf BI.hd (fin _ (I.tok _))
/-- self.f = e on the exception at work -/
def tEst (C : Addr) (f : Str) (to te : TE) : TS := fun D σ H => te σ H fun y H1 => to σ H1 fun x H2 => ∃ a : Addr, x = .ref a ∧
  ((H2 a = some (exo a C none) ∧ ∀ dx, H2 dx = none → dx ≠ a → D.nx σ (upd (upd H2 dx (exd dx [(f, y)])) a (exo a C (some dx)))) ∨
    ∃ (dx : Addr) (fs : List (Str × V)), H2 a = some (exo a C (some dx)) ∧ H2 dx = some (exd dx fs) ∧ fs.length ≤ 900 ∧ D.nx σ (upd H2 dx (exd dx ((f, y) :: fs))))
theorem ps_est (TC : ExC X.K B nw ini T C) (hno : PySem.W.findIn X.K (.ref C) f = some none) (ho : PE X o to) (he : PE X e te) (hs : swapsWith e (some (.Attribute o f p')) pos.line X.env = pure false := by rfl) : PS X (.Assign [.Attribute o f p'] e pos) (tEst C f to te) := by
  refine ⟨fun pins s σ H D I h => ?_⟩
  refine plainObj_wpAny_Assign_Attribute (thn (he.run pins s σ H _ I h) fun v s1 ⟨y, H1, I1, r1, q1⟩ => thn (ho.run pins s1 σ H1 _ I1 q1) fun u s2 ⟨x, H2, I2, r2, a, ex, q⟩ => ?_) hs
  subst ex
  obtain rfl : u = Value.ref a := r2
  rcases q with ⟨ea, q⟩ | ⟨dx, fs, ea, ed, hl, q⟩
  · exact est_new TC I2 ea hno r1 fun dx s' n ne J => ⟨σ, _, J, q dx n ne⟩
  · exact est_old TC I2 ea ed hl hno r1 fun s' J => ⟨σ, _, J, q⟩
end
end Lw

namespace Lw
open PySem PySem.Spec PyProof.Rows L2

/-! ### making and raising an own exception -/
section
variable {P : Program} {w : World} {K : PySem.W.Frag} {mg : Mg} {base : Heap} {qual : Str} {params : Arguments} {bd : List Stmt} {scope : Scope} {fI C : Addr} {fd : FuncData}
theorem ok_ini1 {g tx : Str} (F : FunD K "__init__" qual params bd scope [] [] fI fd) (S : FnScope ["self", g] ["self", g] scope)
    (hb : ∀ (cdv : Value) (A : Around) (outer : List Env) (s : Shared) (H : Hp) (E : XK), PSs (cxOf CX0 P w K mg base ["self", g] qual scope fI cdv A outer s H E).nox bd
      (tSeq (tDrop (tEI C (tCons (tVar 0) (tCons (tC (.str tx)) tNil)))) (tEst C g (tVar 0) (tVar 1)))) :
    FnOk P w K mg base CX0 1 fI fd ["self", g] (spInit C [g]) := by
  refine F.ok S (fun vs H Q E h => ?_) fun cdv A outer s H vs Q E hr h => ⟨_, (hb cdv A outer s H E).nox, ?_⟩
  · obtain ⟨a, ws, rfl, hl, _⟩ := h
    show ws.length + 1 = 2
    rw [hl]; rfl
  · obtain ⟨a, ws, rfl, hl, ha, hq⟩ := h
    match ws, hl with
    | [v], _ => exact ⟨.ref a, rfl, a, [V.str tx], rfl, (show 1 ≤ 1000 by decide), ha, v, rfl, .ref a, rfl, a, rfl, .inl ⟨ha, fun dx hd ne => hq dx hd ne⟩⟩
theorem ok_ini2 {g g2 tx : Str} (F : FunD K "__init__" qual params bd scope [] [] fI fd) (S : FnScope ["self", g, g2] ["self", g, g2] scope)
    (hb : ∀ (cdv : Value) (A : Around) (outer : List Env) (s : Shared) (H : Hp) (E : XK), PSs (cxOf CX0 P w K mg base ["self", g, g2] qual scope fI cdv A outer s H E).nox bd
      (tSeq (tDrop (tEI C (tCons (tVar 0) (tCons (tC (.str tx)) tNil)))) (tSeq (tEst C g (tVar 0) (tVar 1)) (tEst C g2 (tVar 0) (tVar 2))))) :
    FnOk P w K mg base CX0 1 fI fd ["self", g, g2] (spInit C [g, g2]) := by
  refine F.ok S (fun vs H Q E h => ?_) fun cdv A outer s H vs Q E hr h => ⟨_, (hb cdv A outer s H E).nox, ?_⟩
  · obtain ⟨a, ws, rfl, hl, _⟩ := h
    show ws.length + 1 = 3
    rw [hl]; rfl
  · obtain ⟨a, ws, rfl, hl, ha, hq⟩ := h
    match ws, hl with
    | [v, v2], _ =>
      refine ⟨.ref a, rfl, a, [V.str tx], rfl, (show 1 ≤ 1000 by decide), ha, v, rfl, .ref a, rfl, a, rfl, .inl ⟨ha, fun dx hd ne => ?_⟩⟩
      refine ⟨v2, rfl, .ref a, rfl, a, rfl, .inr ⟨dx, [(g, v)], upd_same, ?_, (show 1 ≤ 900 by decide), ?_⟩⟩
      · rw [upd_ne ne]; exact upd_same
      · have z := hq dx hd ne
        have e : upd (upd (upd H dx (exd dx [(g, v)])) a (exo a C (some dx))) dx (exd dx [(g2, v2), (g, v)]) = upd (upd H dx (exd dx [(g2, v2), (g, v)])) a (exo a C (some dx)) := by
          funext b
          by_cases h1 : b = dx
          · subst h1; rw [upd_same, upd_ne ne, upd_same]
          · rw [upd_ne h1]
            by_cases h2 : b = a
            · subst h2; rw [upd_same, upd_same]
            · rw [upd_ne h2, upd_ne h2, upd_ne h1, upd_ne h1]
        rw [e]
        exact z
end
/-- an own exception class as it may be raised: its fields -/
structure XCls (X : Cx) (cn : Str) (C : Addr) (names : List Str) : Prop where
  ex : ∃ B nw ini T fI fd ps, ExC X.K B nw ini T C ∧ PySem.W.findIn X.K (.ref C) "__init__" = some (some (.ref fI)) ∧ PySem.W.typeIn X.K (.ref fI) = some (.type "function") ∧
    FnOk X.prog X.w X.K X.mg X.base CX0 1 fI fd ps (spInit C names) ∧ Binds X.K fd ps [] ∧ names.length ≤ 900
  mg : X.mg cn = some (.ref C)
section
variable {X : Cx} {c : Cn} {e : Expr} {es : List Expr} {mr : MA} {ta : TA} {p pos : Pos} {cn : Str} {C : Addr} {names : List Str}
theorem pmk_ex (T : XCls X cn C names) (hr : Room 2 X.A) (hg : Gl X cn) (ha : PA X (e :: es) ta) (hdb : (cn == ("__debug__" : Str)) = false := by decide)
    (he : starEach (e :: es) X.env = (false, eval e X.env) :: starEach es X.env := by rfl) (hpl : (backTo pos (starEach es X.env)).any (·.1) = false := by rfl) :
    PMk X (.Call (.Name cn p) (e :: es) [] pos) (tMkO C (spInit C names) [] ta) := by
  intro pins s σ H Q I h
  obtain ⟨B, nw, ini, T', fI, fd, ps, TC, iC, tI, F1, hb, _⟩ := T.ex
  obtain ⟨nm, q, N, bs, bm, sn, sub, ab, col, dd, k0, k1, k2, k3, k5, hC, hbm⟩ := TC.cls
  refine wpAny_Call_Name_kw (ld_glob I hg T.mg ?_ hdb)
  refine PySem.W.callWith_K (h₀ := X.base) I.ok.mod.kin TC.kC (thn (ha.run pos pins s σ H _ I h) fun us s1 ⟨vs, H1, I1, r1, hz, q1⟩ => ⟨I1.kIn, ?_⟩) he hpl
  show wpAny _ _ (call (.ref C) us) _ _ _
  obtain ⟨hp, g, dr, tk, os⟩ := s1
  have hsz : hp.objs.size ≤ hp.objs.size + 1 := Nat.le_succ _
  have hn : H1 (hp.objs.size + 1) = none := I1.hok.fresh hsz
  have hq := q1 (hp.objs.size + 1) hn
  rw [List.append_nil] at hq
  have kk : ∀ b o, hp.get? b = some o → ((hp.push (PySem.W.kdv_tup us)).push (PySem.HandSPX.excO C hp.objs.size)).get? b = some o := fun b o e => Heap.get?_push_of_some _ (Heap.get?_push_of_some _ e)
  have hget : ((hp.push (PySem.W.kdv_tup us)).push (PySem.HandSPX.excO C hp.objs.size)).get? (hp.objs.size + 1) = some (PySem.HandSPX.excO C hp.objs.size) := by heap_get
  have I2 := I1.laid (t' := tk) (a := hp.objs.size + 1) (o := exo (hp.objs.size + 1) C none) (h' := (hp.push (PySem.W.kdv_tup us)).push (PySem.HandSPX.excO C hp.objs.size)) kk hsz (exo_ok hget)
  have r2 : Vals (V.ref (hp.objs.size + 1) :: vs) (Value.ref (hp.objs.size + 1) :: us) := .cons rfl r1
  have hl : ((Value.ref (hp.objs.size + 1) :: us) ++ []).length = ps.length := by
    rw [List.append_nil]
    exact r2.length.symm.trans (F1.len _ _ _ _ hq)
  have hus : us.length ≤ sizeLine := by rw [← Paired.length r1, sizeLine_eq]; omega
  have bi := hb _ (Value.ref (hp.objs.size + 1) :: us) I2.kIn hl
  rw [List.append_nil] at bi
  refine wpAny_call (PySem.HandSPX.call_own TC.base.F (fun Y => hbm.has Y) (I1.kIn _ _ hC) (PySem.W.looks_findIn I1.kIn iC) (fun self => PySem.W.bind_fn I1.kIn self tI) hus
    (codeAny_mono (F1.run _ X.stack _ _ ⟨Value.ref (hp.objs.size + 1) :: us, []⟩ _ _ _ (fun _ _ _ => False) (hr.make C us []) (I2.env0.make C us []) bi r2 hq) fun rs s' hq' => ?_))
  cases rs with
  | error er => exact (show False from hq').elim
  | ok fl =>
    cases fl with
    | ret u =>
      obtain ⟨v, H2, os2, bare2, un2, hok2, rv, ev, d, fs, ea, ed, hd1, q2⟩ := hq'
      subst ev
      obtain ⟨h2, g2, d2, t2, os'⟩ := s'
      exact ⟨rv, mk_end (raises_own TC.exC TC.tyC) I1 hsz kk un2 hok2 os2 bare2 ea ed hd1 q2⟩
    | next => exact hq'.elim
    | brk => exact hq'.elim
    | cont => exact hq'.elim
/-- raise cn(e, ..) -/
def mRaise (cn : Str) (names : List Str) (m : MA) : MS := fun md sd S => m sd S (fun ds S1 => ds.length = names.length ∧ md.ex ⟨cn, (names.zip ds).reverse⟩ sd S1) (fun e S1 => md.ex e sd S1)
theorem relFs_append {K : PySem.W.Frag} {mg : Mg} {r : List Addr} {H : Hp} {fs gs : List (Str × D)} {vs ws : List (Str × V)} (h : RelFs K mg r H fs vs) (h2 : RelFs K mg r H gs ws) : RelFs K mg r H (fs ++ gs) (vs ++ ws) := by
  induction h with
  | nil => exact h2
  | cons a _ ih => exact .cons a ih
theorem relFs_zip {K : PySem.W.Frag} {mg : Mg} {r : List Addr} {H : Hp} : ∀ {names : List Str} {ds : List D} {vs : List V}, RelDs K mg r H ds vs → RelFs K mg r H (names.zip ds).reverse (names.zip vs).reverse
  | [], _, _, _ => .nil
  | _ :: _, _, _, .nil => .nil
  | n :: ns, _, _, .cons h q => by
    simp only [List.zip_cons_cons, List.reverse_cons]
    exact relFs_append (relFs_zip q) (.cons h .nil)
theorem ms_raise {pos2 : Pos} (T : XCls X cn C names) (hc : X.calm = true) (co : CallOk X c 2) (hg : Gl X cn) (ha : PA X (e :: es) (tA c mr)) (hdb : (cn == ("__debug__" : Str)) = false := by decide)
    (he : starEach (e :: es) X.env = (false, eval e X.env) :: starEach es X.env := by rfl) (hpl : (backTo pos (starEach es X.env)).any (·.1) = false := by rfl) :
    PS X (.Raise (some (.Call (.Name cn p) (e :: es) [] pos)) none pos2) (tS c (mRaise cn names mr)) := weakS (ps_raise hc co.tk (pmk_ex T co.room hg ha hdb he hpl)) fun D s H z => by
  obtain ⟨r, S, sd, md, a, hm, g⟩ := z
  obtain ⟨_, _, _, _, _, _, _, _, _, _, _, _, hn9⟩ := T.ex
  refine ⟨r, S, sd, _, _, a, hm, fun ds S1 r1 vs H1 h1 t1 sm1 rd1 => ?_, goX_of g a.rel⟩
  obtain ⟨hl, h1⟩ := h1
  refine ⟨by rw [← rd1.length, hl]; omega, fun x hx => ?_⟩
  refine ⟨x, vs, by rw [List.append_nil], by rw [← rd1.length, hl], upd_same, fun d hd ne => ?_⟩
  have hd0 : H1 d = none := by rw [upd_ne ne] at hd; exact hd
  refine ⟨rfl, d, _, upd_same, by rw [upd_ne ne]; exact upd_same, hd0, ?_⟩
  have e3 : upd (del (upd (upd (upd H1 x (exo x C none)) d (exd d (names.zip vs).reverse)) x (exo x C (some d))) x) d (.xd (names.zip vs).reverse) = upd H1 d (.xd (names.zip vs).reverse) := by
    funext b
    by_cases h1 : b = d
    · subst h1; rw [upd_same, upd_same]
    · rw [upd_ne h1, upd_ne h1]
      by_cases h2 : b = x
      · subst h2; rw [del_same, hx]
      · rw [del_ne h2, upd_ne h2, upd_ne h1, upd_ne h2]
  rw [e3]
  have t2 : Stp r1 H1 r1 (upd H1 d (.xd (names.zip vs).reverse)) := Stp.laid hd0
  exact g.ex _ sd S1 r1 s _ _ _ h1 (t1.trans t2) (sm1.laid hd0) ((a.rel.mono t1).mono t2) (.own (by rw [co.mg]; exact T.mg) upd_same ((relFs_zip rd1).mono t2))
end
/-! ### try .. except .. -/
/-- what the clauses wish of an exception of the body -/
def wClauses (K : PySem.W.Frag) (Wout : WX) (D : Ends) : List (Value × Option Nat × (Addr → Value → Option Addr → TS)) → WX
  | [] => Wout
  | (c, none, ts) :: l => fun cls d σ H => ∃ b, PySem.W.exmOne K cls c = some b ∧ (b = true → ∀ a, H a = none → ts a cls d D σ H) ∧ (b = false → wClauses K Wout D l cls d σ H)
  | (c, some i, ts) :: l => fun cls d σ H => ∃ b, PySem.W.exmOne K cls c = some b ∧
      (b = true → ∀ a, H a = none → ts a cls d { nx := fun σ' H' => D.nx (σ'.set i none) H', rt := D.rt, bk := fun σ' H' => D.bk (σ'.set i none) H', ct := fun σ' H' => D.ct (σ'.set i none) H' } (σ.set i (some (.ref a))) H) ∧
      (b = false → wClauses K Wout D l cls d σ H)
inductive ClausesOk (X : Cx) : List ExceptHandler → List (Value × Option Nat × (Addr → Value → Option Addr → TS)) → Prop
  | nil : ClausesOk X [] []
  | bare {x : Str} {c : Value} {ts : Addr → Value → Option Addr → TS} {b0 : Stmt} {suite : List Stmt} {np pos' : Pos} {hds : List ExceptHandler} {l : List (Value × Option Nat × (Addr → Value → Option Addr → TS))} (hc : Names X x c)
      (hsu : ∀ (a : Addr) (oe : Obj) (cls : Value) (d : Option Addr) (pn : List (Addr × Obj)), Zc cls d oe → (∃ vs, oe.data = .fields vs) → PSs (X.suite a ((a, oe) :: pn)) (b0 :: suite) (ts a cls d)) (r : ClausesOk X hds l) :
      ClausesOk X (.ExceptHandler (some (.Name x np)) none (b0 :: suite) pos' :: hds) ((c, none, ts) :: l)
  | named {x n : Str} {i : Nat} {c : Value} {ts : Addr → Value → Option Addr → TS} {b0 : Stmt} {suite : List Stmt} {np pos' : Pos} {hds : List ExceptHandler} {l : List (Value × Option Nat × (Addr → Value → Option Addr → TS))} (hc : Names X x c)
      (hi : X.N[i]? = some n) (hln : X.env.kindOf n = some .local)
      (hsu : ∀ (a : Addr) (oe : Obj) (cls : Value) (d : Option Addr) (pn : List (Addr × Obj)), Zc cls d oe → (∃ vs, oe.data = .fields vs) → PSs (X.suite a ((a, oe) :: pn)) (b0 :: suite) (ts a cls d)) (r : ClausesOk X hds l) :
      ClausesOk X (.ExceptHandler (some (.Name x np)) (some n) (b0 :: suite) pos' :: hds) ((c, some i, ts) :: l)
section
variable {X : Cx} {body : List Stmt} {h0 : ExceptHandler} {hds : List ExceptHandler} {l : List (Value × Option Nat × (Addr → Value → Option Addr → TS))} {pos : Pos} {tb : WX → TS} {Wout : WX}
theorem ps_clauses (hs : X.stack = X.env :: X.outer) (hf : X.env.frame = some X.env.locals) (hN : X.N.Nodup) (tk : Takes X Wout)
    (hb : ∀ (W : WX) (pn : List (Addr × Obj)) (xe : Value → Shared → Prop), Takes (X.tr pn xe) W → PassesOwn (model X.prog X.w) X.A X.env xe → PSs (X.tr pn xe) body (tb W))
    (hh : ClausesOk X (h0 :: hds) l) : PS X (.Try body (h0 :: hds) [] [] pos) (fun D σ H => tb (wClauses X.K Wout D l) D σ H) := by
  refine ⟨fun pins s σ H D I h => ?_⟩
  have ok := I.ok
  have hfr : X.A.frames = some (X.env :: X.outer) := by rw [ok.frames, hs]
  let xe1 : Value → Shared → Prop := fun e s1 => wpAny (model X.prog X.w) X.A (noteFrame e X.env) (fun _ s2 => wpAny (model X.prog X.w) X.A (setFlight e none) (fun _ s3 => wpAny (model X.prog X.w) X.A (handleBy e X.env (h0 :: hds)) (SP X pins D) X.xe s3) X.xe s2) X.xe s1
  have tk1 : Takes (X.tr (X.pn ++ pins) xe1) (wClauses X.K Wout D l) := by
    intro u s' xx
    obtain ⟨a, B, sI, pins', σ', H', cls, d, rfl, J', nb, up, sky, na, os, ag, w⟩ := xx
    have J : Inv X pins σ' H' sI := J'.ofTry ok
    have sk : Sky B (X.env :: X.outer) a (Zc cls d) X.env.locals s'.heap := by rw [← hs]; exact sky
    show wpAny (model X.prog X.w) X.A (noteFrame (.ref a) X.env) _ _ _
    refine Sky.land Zc.steady hfr hf sk fun h3 fl3 up3 => ?_
    have J3 : Inv X pins σ' H' { s' with heap := h3 } := J.landed nb fl3.1 (up.trans up3) os ag
    obtain ⟨oe3, vs3, he3, hz3, hd3⟩ := fl3.there
    have nfr : a ∉ frs (X.env :: X.outer) := fun hm => by
      obtain ⟨_, o', e', hnf⟩ := (show h3.FunFrames B (X.env :: X.outer) from fl3.2.2.1).mem hm
      rw [he3] at e'; cases e'
      exact hnf _ hd3
    have nL : a ≠ X.env.locals := fun z => nfr (List.mem_filterMap.mpr ⟨X.env, List.mem_cons_self, by rw [hf, z]⟩)
    have nF : a ∉ X.fs := fun hm => by
      obtain ⟨e, he, q⟩ := List.mem_filterMap.mp hm
      exact nfr (List.mem_filterMap.mpr ⟨e, List.mem_cons_of_mem _ he, q⟩)
    have S3 := J3.suite he3 hd3 na nL nF
    have LT : PySem.W.Looks (model X.prog X.w) h3 (typeOf (.ref a)) cls := fun A Q E s k q => wpAny_typeOf_ref (k _ _ he3) (by rw [hz3.1]; exact q)
    have tst : ∀ {x : Str} {np : Pos} {c : Value} {Q : Value → Shared → Prop} {E : Value → Shared → Prop}, Names X x c → Q c { s' with heap := h3 } → wpAny (model X.prog X.w) (X.A.mark (some (.ref a))) (eval (.Name x np) X.env) Q E { s' with heap := h3 } := fun {x np c Q E} hc q => by
      obtain ⟨hg, hdbg, hm | ⟨hm, hv, hnn⟩⟩ := hc
      · exact ld_glob (X := X.suite a ((a, oe3) :: (X.pn ++ pins))) S3 hg hm q hdbg
      · exact ld_blt (X := X.suite a ((a, oe3) :: (X.pn ++ pins))) S3 hg hm hv q hnn hdbg
    have go : ∀ {hds' : List ExceptHandler} {l' : List (Value × Option Nat × (Addr → Value → Option Addr → TS))}, ClausesOk X hds' l' → wClauses X.K Wout D l' cls d σ' H' →
        wpAny (model X.prog X.w) X.A (handleBy (.ref a) X.env hds') (SP X pins D) X.xe { s' with heap := h3 } := by
      intro hds' l' hk
      induction hk with
      | nil =>
        intro w
        refine wpAny_handleBy_nil ?_
        obtain ⟨k1, k2, k3, oe, vs, T, oT, ts', he, hz, hd, h1, hr⟩ := id fl3
        unfold PySem.passOn
        refine wpAny_bind (wpAny_field he hd h1 ?_)
        rw [if_neg (show ¬ ((Value.ref T == Value.none) = true) from by simp)]
        have fin : wpAny (model X.prog X.w) X.A (setFlight (.ref a) X.env.frame) (fun _ s4 => wpAny (model X.prog X.w) X.A (throw (.ref a) : Sem Flow) (SP X pins D) X.xe s4) X.xe { s' with heap := h3 } := by
          rw [hf]
          refine HandSPX.setFlight_upZ fl3 fun h4 hh4 up4 => wpAny_throw (tk _ _ ?_)
          exact ⟨a, B, sI, pins, σ', H', cls, d, rfl, J, nb, (up.trans up3).trans up4, .inr (.inr (by rw [hs]; exact hh4)), na, os, ag, w⟩
        first
          | exact wpAny_bind (wpAny_pure (wpAny_bind fin))
          | exact wpAny_bind fin
      | @bare x c ts b0 suite np pos' hds2 l2 hc hsu r ih =>
        intro w
        obtain ⟨b, hb1, hyes, hno⟩ := w
        refine wpAny_handleBy_cons (codeAny_handlers_test ?_) (by intro q; cases q)
        refine tst hc ((PySem.W.exm_one (M := model X.prog X.w) J3.kIn LT hb1).here ?_)
        cases b with
        | false => exact ih (hno rfl)
        | true =>
          refine codeAny_handlers_suite ?_
          refine HandSPX.lands_againZ fl3 fun h4 fl4 up4 => ?_
          have J4 : Inv X pins σ' H' { s' with heap := h4 } := J.landed nb fl4.1 ((up.trans up3).trans up4) os ag
          obtain ⟨oe4, vs4, he4, hz4, hd4⟩ := fl4.there
          refine wpAny_mono ((hsu a oe4 cls d (X.pn ++ pins) hz4 ⟨_, hd4⟩).run [] _ _ H' _ (J4.suite he4 hd4 na nL nF) (hyes rfl a na)) (fun f s6 hsp => ?_) (fun _ _ z => False.elim z)
          cases f with
          | next => exact let ⟨_, _, S6, q6⟩ := hsp; ⟨_, _, S6.unsuite ok, q6⟩
          | brk => exact let ⟨_, _, S6, q6⟩ := hsp; ⟨_, _, S6.unsuite ok, q6⟩
          | cont => exact let ⟨_, _, S6, q6⟩ := hsp; ⟨_, _, S6.unsuite ok, q6⟩
          | ret u => exact let ⟨_, _, _, S6, r6, q6⟩ := hsp; ⟨_, _, _, S6.unsuite ok, r6, q6⟩
      | @named x n i c ts b0 suite np pos' hds2 l2 hc hi hln hsu r ih =>
        intro w
        obtain ⟨b, hb1, hyes, hno⟩ := w
        refine wpAny_handleBy_cons (codeAny_handlers_test ?_) (by intro q; cases q)
        refine tst hc ((PySem.W.exm_one (M := model X.prog X.w) J3.kIn LT hb1).here ?_)
        cases b with
        | false => exact ih (hno rfl)
        | true =>
          refine codeAny_handlers_suite_as ?_
          refine HandSPX.lands_againZ fl3 fun h4 fl4 up4 => ?_
          have J4 : Inv X pins σ' H' { s' with heap := h4 } := J.landed nb fl4.1 ((up.trans up3).trans up4) os ag
          obtain ⟨oe4, vs4, he4, hz4, hd4⟩ := fl4.there
          refine store_ok (X := X.suite a ((a, oe4) :: (X.pn ++ pins))) (v := .ref a) (J4.suite he4 hd4 na nL nF) hN hi (.inl hln) rfl (fun s5 S5 => ?_) (.inr hln)
          refine wpAny_mono ((hsu a oe4 cls d (X.pn ++ pins) hz4 ⟨_, hd4⟩).run [] s5 _ H' _ S5 (hyes rfl a na)) (fun f s6 hsp => ?_) (fun _ _ z => False.elim z)
          have gone : ∀ {σ6 : L2.St} {H6 : Hp} {Q : Shared → Prop}, Inv (X.suite a ((a, oe4) :: (X.pn ++ pins))) [] σ6 H6 s6 → (∀ s7, Inv X pins (σ6.set i none) H6 s7 → Q s7) →
              wpAny (model X.prog X.w) X.A (do bindName X.env n .none; unbindBehindTheSuite X.env n pos') (fun _ s7 => Q s7) X.xe s6 := fun {σ6 H6 Q} S6 hq => gone_ok (S6.unsuite ok) hN hi hln hq
          cases f with
          | next => exact let ⟨_, _, S6, q6⟩ := hsp; gone S6 fun s7 J7 => ⟨_, _, J7, q6⟩
          | brk => exact let ⟨_, _, S6, q6⟩ := hsp; gone S6 fun s7 J7 => ⟨_, _, J7, q6⟩
          | cont => exact let ⟨_, _, S6, q6⟩ := hsp; gone S6 fun s7 J7 => ⟨_, _, J7, q6⟩
          | ret u => exact let ⟨_, _, _, S6, r6, q6⟩ := hsp; gone S6 fun s7 J7 => ⟨_, _, _, J7, r6, q6⟩
    exact go hh w
  refine wpAny_Try_except (wpAny_mono ((hb (wClauses X.K Wout D l) (X.pn ++ pins) xe1 tk1 PassesOwn.looking).run [] s σ H D (I.toTry _) h) (fun f s1 hsp => ?_) (fun e s1 he => he))
  cases f with
  | next => exact let ⟨_, _, J', q⟩ := hsp; wpAny_execs_nil ⟨_, _, J'.ofTry ok, q⟩
  | brk => exact let ⟨_, _, J', q⟩ := hsp; ⟨_, _, J'.ofTry ok, q⟩
  | cont => exact let ⟨_, _, J', q⟩ := hsp; ⟨_, _, J'.ofTry ok, q⟩
  | ret u => exact let ⟨_, _, _, J', r, q⟩ := hsp; ⟨_, _, _, J'.ofTry ok, r, q⟩
end
/-- a clause: which classes it takes, the name's slot, the suite -/
structure Cls where
  tab : List (Str × Bool)
  slot : Option Nat
  suite : Exc → Addr → MS
def outS (i : Option Nat) (sd : Sg) : Sg := match i with
  | some i => sd.set i none
  | none => sd
def inS (i : Option Nat) (a : Addr) (sd : Sg) : Sg := match i with
  | some i => sd.set i (some (.adr a))
  | none => sd
def tryH (md : MEnds) : List Cls → Exc → Sg → Sto → Prop
  | [], x, sd, S => md.ex x sd S
  | k :: ks, x, sd, S => match k.tab.lookup x.c with
    | some true => ∀ a : Addr, k.suite x a { md with nx := fun sd' S' => md.nx (outS k.slot sd') S', bk := fun sd' S' => md.bk (outS k.slot sd') S', ct := fun sd' S' => md.ct (outS k.slot sd') S', ex := fun _ _ _ => False } (inS k.slot a sd) S
    | some false => tryH md ks x sd S
    | none => False
def mTry (b : MS) (ks : List Cls) : MS := fun md sd S => b { md with ex := tryH md ks } sd S
/-- the place within a suite that holds the exception x -/
abbrev Cn.suite (c : Cn) (x : Exc) (cls : Value) (d : Option Addr) : Cn := ⟨c.K, c.mg, fun r H => RelX c.K c.mg r H x cls d, fun t h => h.mono t, fun _ _ _ _ => False⟩
/-- the clauses over trees and those of the layer -/
inductive ClsRel (X : Cx) (c : Cn) : List ExceptHandler → List Cls → Prop
  | nil : ClsRel X c [] []
  | cons {x : Str} {v : Value} {n : Option Str} {np pos' : Pos} {b0 : Stmt} {suite : List Stmt} {hds : List ExceptHandler} {k : Cls} {ks : List Cls} (hc : Names X x v)
      (hn : (n = none ∧ k.slot = none) ∨ ∃ y i, n = some y ∧ k.slot = some i ∧ X.N[i]? = some y ∧ X.env.kindOf y = some .local)
      (ht : ∀ (cn : Str) (b : Bool) (cls : Value), k.tab.lookup cn = some b → (∃ (r : List Addr) (H : Hp) (fs : List (Str × D)) (d : Option Addr), RelX c.K c.mg r H ⟨cn, fs⟩ cls d) → PySem.W.exmOne c.K cls v = some b)
      (hs : ∀ (e : Exc) (a : Addr) (oe : Obj) (cls : Value) (d : Option Addr) (pn : List (Addr × Obj)), Zc cls d oe → (∃ vs, oe.data = .fields vs) → PSs (X.suite a ((a, oe) :: pn)) (b0 :: suite) (tS (c.suite e cls d) (k.suite e a))) (r : ClsRel X c hds ks) :
      ClsRel X c (.ExceptHandler (some (.Name x np)) n (b0 :: suite) pos' :: hds) (k :: ks)
theorem outS_rel {K : PySem.W.Frag} {mg : Mg} {r : List Addr} {H : Hp} {sd : Sg} {s : L2.St} {i : Nat} {v : Option V} (g : RelG K mg r H sd s) : RelG K mg r H (sd.set i none) (s.set i v) := by
  refine ⟨by simp [g.len], fun j d h => ?_⟩
  by_cases e : i = j
  · subst e
    by_cases hl : i < sd.length
    · rw [List.getElem?_set_self hl] at h; cases h
    · rw [List.getElem?_eq_none (by simpa using hl)] at h; cases h
  · rw [List.getElem?_set_ne e] at h
    obtain ⟨u, hu, ru⟩ := g.at_ j d h
    exact ⟨u, by rw [List.getElem?_set_ne e]; exact hu, ru⟩
section
variable {X : Cx} {c : Cn} {body : List Stmt} {h0 : ExceptHandler} {hds : List ExceptHandler} {ks : List Cls} {pos : Pos} {b : MS}
/-- the body's wish as the clauses' -/
theorem tryW {hs : List ExceptHandler} (h : ClsRel X c hs ks) (hK : c.K = X.K) : ∃ l, ClausesOk X hs l ∧ ∀ (D : Ends) (e : Exc) (r : List Addr) (H : Hp) (md : MEnds) (sd : Sg) (S : Sto) (s : L2.St) (cls : Value) (dd : Option Addr),
    c.Sm r H S → RelG c.K c.mg r H sd s → c.Rx r H e cls dd → EOk c r H md D → tryH md ks e sd S → wClauses X.K c.W D l cls dd s H := by
  induction h with
  | nil => exact ⟨[], .nil, fun D e r H md sd S s cls dd sm rl rx g h => g.ex e sd S r s H cls dd h Stp.refl sm rl rx⟩
  | @cons x v n np pos' b0 suite hds k ks hc hn ht hs hr ih =>
    obtain ⟨l, hl, hw⟩ := ih
    let ts : Addr → Value → Option Addr → TS := fun a cls d D s H => ∃ e, RelX c.K c.mg [] H e cls d ∧ False ∨ ∃ e, tS (c.suite e cls d) (k.suite e a) D s H
    have hsu : ∀ (a : Addr) (oe : Obj) (cls : Value) (d : Option Addr) (pn : List (Addr × Obj)), Zc cls d oe → (∃ vs, oe.data = .fields vs) → PSs (X.suite a ((a, oe) :: pn)) (b0 :: suite) (ts a cls d) := fun a oe cls d pn z f =>
      ⟨fun pins s σ H D I q => by
        obtain ⟨e0, q⟩ := q
        rcases q with ⟨_, q⟩ | ⟨e, q⟩
        · exact q.elim
        · exact (hs e a oe cls d pn z f).run pins s σ H D I q⟩
    rcases hn with ⟨rfl, hsl⟩ | ⟨y, i, rfl, hsl, hi, hln⟩
    · refine ⟨(v, none, ts) :: l, .bare hc hsu hl, fun D e r H md sd S s cls dd sm rl rx g h => ?_⟩
      unfold tryH at h
      rw [hsl] at h
      split at h
      · rename_i hb
        refine ⟨true, by rw [← hK]; exact ht _ _ _ hb ⟨r, H, e.fs, dd, rx⟩, fun _ a na => ⟨e, .inr ⟨e, r, S, sd, _, ⟨sm, rl, rx⟩, h a, ?_⟩⟩, fun z => (by cases z)⟩
        exact ⟨g.nx, g.rt, g.bk, g.ct, fun _ _ _ _ _ _ _ _ z => z.elim⟩
      · rename_i hb
        exact ⟨false, by rw [← hK]; exact ht _ _ _ hb ⟨r, H, e.fs, dd, rx⟩, fun z => (by cases z), fun _ => hw D e r H md sd S s cls dd sm rl rx g h⟩
      · exact h.elim
    · refine ⟨(v, some i, ts) :: l, .named hc hi hln hsu hl, fun D e r H md sd S s cls dd sm rl rx g h => ?_⟩
      unfold tryH at h
      rw [hsl] at h
      split at h
      · rename_i hb
        refine ⟨true, by rw [← hK]; exact ht _ _ _ hb ⟨r, H, e.fs, dd, rx⟩, fun _ a na => ⟨e, .inr ⟨e, r, S, sd.set i (some (.adr a)), _, ⟨sm, rl.put (.adr a), rx⟩, h a, ?_⟩⟩, fun z => (by cases z)⟩
        exact ⟨fun sd' S' r' s' H' h t sm' rl' => g.nx _ S' r' _ H' h t sm' (outS_rel rl'), g.rt, fun sd' S' r' s' H' h t sm' rl' => g.bk _ S' r' _ H' h t sm' (outS_rel rl'), fun sd' S' r' s' H' h t sm' rl' => g.ct _ S' r' _ H' h t sm' (outS_rel rl'), fun _ _ _ _ _ _ _ _ z => z.elim⟩
      · rename_i hb
        exact ⟨false, by rw [← hK]; exact ht _ _ _ hb ⟨r, H, e.fs, dd, rx⟩, fun z => (by cases z), fun _ => hw D e r H md sd S s cls dd sm rl rx g h⟩
      · exact h.elim
theorem ms_try (hs : X.stack = X.env :: X.outer) (hf : X.env.frame = some X.env.locals) (hN : X.N.Nodup) (tk : Takes X c.W) (hK : c.K = X.K)
    (hb : ∀ (W : WX) (pn : List (Addr × Obj)) (xe : Value → Shared → Prop), Takes (X.tr pn xe) W → PassesOwn (model X.prog X.w) X.A X.env xe → PSs (X.tr pn xe) body (tS ⟨c.K, c.mg, c.P, c.st, W⟩ b))
    (hh : ClsRel X c (h0 :: hds) ks) : PS X (.Try body (h0 :: hds) [] [] pos) (tS c (mTry b ks)) := by
  obtain ⟨l, hl, hw⟩ := tryW hh hK
  refine weakS (ps_clauses hs hf hN tk hb hl) fun D s H z => ?_
  obtain ⟨r, S, sd, md, a, hm, g⟩ := z
  refine ⟨r, S, sd, { md with ex := tryH md ks }, ⟨a.sim, a.rel, a.hyp⟩, hm, ⟨g.nx, g.rt, g.bk, g.ct, fun e sd' S' r' s' H' cls dd h t sm rl rx => ?_⟩⟩
  exact hw D e r' H' md sd' S' s' cls dd sm rl rx (g.step t) h
/-- n.f in a suite that holds the exception x, at a, under the name n in the slot i -/
def mExcF (x : Exc) (a : Addr) (i : Nat) (f : Str) : ME := fun sd S q _ => match sd[i]? with
  | some (some (.adr b)) => b = a ∧ (match x.fs.lookup f with
    | some d => q d S
    | none => False)
  | _ => False
/-- what the written part says of a class of which fields are read in a suite -/
structure ExR (K : PySem.W.Frag) (mg : Mg) (cn f : Str) : Prop where
  ex : ∃ C gt, mg cn = some (.ref C) ∧ PySem.W.hasDictIn K C = true ∧ PySem.W.findIn K (.ref C) f = some none ∧ PySem.W.findIn K (.ref C) "__getattribute__" = some (some (.builtin "BaseException.__getattribute__")) ∧
    PySem.W.findIn K (.ref C) "__getattr__" = some gt ∧ PySem.W.subIn K (.ref C) (.type "BaseException") = some true
theorem me_excF {X : Cx} {c : Cn} {x : Exc} {a : Addr} {oe : Obj} {cls : Value} {d : Option Addr} {pn : List (Addr × Obj)} {i : Nat} {y f : Str} {pos p : Pos} (hK : c.K = X.K) (hm : c.mg = X.mg) (R : ExR X.K X.mg x.c f) (hz : Zc cls d oe) (hf : ∃ vs, oe.data = .fields vs)
    (ho : PE (X.suite a ((a, oe) :: pn)) (.Name y p) (tVar i)) (hb : attributeBase (.Name y p) f X.env (eval (.Name y p) X.env) = eval (.Name y p) X.env := by rfl) : PE (X.suite a ((a, oe) :: pn)) (.Attribute (.Name y p) f pos) (tE (c.suite x cls d) (mExcF x a i f)) := by
  obtain ⟨C, gt, hC, hd, hno, hga, hgt, hsub⟩ := R.ex
  refine ⟨fun pins s σ H Q I h => ?_⟩
  obtain ⟨r, S, sd, q, xx, at_, hmm, g, gx⟩ := h
  unfold mExcF at hmm
  split at hmm
  · rename_i b eb
    obtain ⟨rfl, hmm⟩ := hmm
    split at hmm
    · rename_i dv edv
      obtain ⟨v, ev, rv⟩ := at_.rel.at_ i _ eb
      cases rv
      refine attr_of hb (thn (ho.run pins s σ H (fun v H1 => v = .ref b ∧ H1 = H) I ⟨_, ev, rfl, rfl⟩) fun u s1 ⟨x1, H1, I1, rx, e1, e2⟩ => ?_)
      subst e1
      rw [e2] at I1
      obtain rfl : u = Value.ref b := rx
      have hyp : RelX c.K c.mg r H x cls d := at_.hyp
      cases hyp with
      | own0 hc => cases edv
      | blt hm' => cases edv
      | @own cn C' dd fs vs hc hx q' =>
        rw [hm, hC] at hc
        cases hc
        obtain ⟨w, ew, rw'⟩ := (q'.lookup f).2 dv edv
        obtain ⟨ha, _⟩ := I1.pin (b, oe) (List.mem_append_left _ List.mem_cons_self)
        obtain ⟨zs, hzs⟩ := hf
        have hx2 : ObjOk X.prog X.w H s1.heap dd (.xd vs) := I1.hok dd _ hx
        obtain ⟨mA, hns, hr⟩ := hx2
        obtain ⟨od, hod, hl⟩ := lookIn_ns hns
        obtain ⟨u2, hu2, ru2⟩ := RelO.some_of (v := w) (o := mA f) (by rw [← ew]; exact hr f)
        have J : PySem.W.InstAt s1.heap b oe C (some od) := ⟨ha, hz.1, by unfold PySem.W.notCls; rw [hzs] <;> rfl, by rw [hz.2]; exact hod⟩
        exact HandSPX.exc_get I1.kIn J hga hgt hsub (PySem.W.findObj_own hd hno rfl (by rw [hl, hu2])) (handed_of ru2) ⟨w, H, I1.tok _, ru2, g dv S r w H hmm Stp.refl at_.sim rw'⟩
    · exact hmm.elim
  · exact hmm.elim
end
end Lw

namespace Lw
open PySem PySem.Spec PyProof.Rows L2

/-! ### operations on values -/
def lstO (S : Sto) (n : Nat) : Option (List D) := match S[n]? with
  | some (.lst ds) => some ds
  | _ => none
def seqO (S : Sto) (n : Nat) : Option (List D) := match S[n]? with
  | some (.lst ds) => some ds
  | some (.frz ds) => some ds
  | _ => none
section
variable {c : Cn} {r : List Addr} {H : Hp} {S : Sto} {n : Nat} {v : V} {ds : List D}
theorem lst_of (sm : c.Sm r H S) (rd : c.Rd r H (.ref n) v) (h : lstO S n = some ds) : ∃ a vs, v = .ref a ∧ r[n]? = some a ∧ H a = some (.lst vs) ∧ c.Rs r H ds vs := by
  cases rd with
  | ref hr =>
    unfold lstO at h
    split at h
    · rename_i hS
      cases h
      cases sm.obj _ _ _ hS hr with
      | lst h1 h2 => exact ⟨_, _, rfl, hr, h1, h2⟩
    · cases h
theorem seq_of (sm : c.Sm r H S) (rd : c.Rd r H (.ref n) v) (h : seqO S n = some ds) : ∃ a vs, v = .ref a ∧ r[n]? = some a ∧ SqL c.K H a vs ∧ c.Rs r H ds vs := by
  cases rd with
  | ref hr =>
    unfold seqO at h
    split at h
    · rename_i hS
      cases h
      obtain ⟨vs, h1, h2⟩ := list_at sm hr (.inl hS)
      exact ⟨_, vs, rfl, hr, h1, h2⟩
    · rename_i hS
      cases h
      obtain ⟨vs, h1, h2⟩ := list_at sm hr (.inr hS)
      exact ⟨_, vs, rfl, hr, h1, h2⟩
    · cases h
theorem tup_of (rd : c.Rd r H (.tup ds) v) : ∃ a vs, v = .ref a ∧ SqT c.K H a vs ∧ c.Rs r H ds vs := by
  cases rd with
  | tup h q => exact ⟨_, _, rfl, h, q⟩
end
def mAdd : MOp := fun d e S q => match d, e with
  | .int i, .int j => q (.int (i + j)) S
  | .int i, .bl k => q (.int (i + b2i k)) S
  | .str a, .str b => a.length + b.length ≤ sizeLine ∧ q (.str (a ++ b)) S
  | .tup a, .tup b => a.length + b.length ≤ sizeLine ∧ q (.tup (a ++ b)) S
  | .ref n, .ref m => (match lstO S n, lstO S m with
    | some a, some b => a.length + b.length ≤ sizeLine ∧ q (.ref S.length) (S ++ [.lst (a ++ b)])
    | _, _ => False)
  | _, _ => False
def mSub : MOp := fun d e S q => match d, e with
  | .int i, .int j => q (.int (i - j)) S
  | _, _ => False
def mMul : MOp := fun d e S q => match d, e with
  | .int i, .int j => (CMul i j ∨ CMulW i j) ∧ q (.int (i * j)) S
  | _, _ => False
def mFdiv : MOp := fun d e S q => match d, e with
  | .int i, .int j => (0 < j ∧ j.natAbs.log2 < 9000) ∧ q (.int (i / j)) S
  | _, _ => False
def mMod : MOp := fun d e S q => match d, e with
  | .int i, .int j => 0 < j ∧ q (.int (i % j)) S
  | _, _ => False
def mPow : MOp := fun d e S q => match d, e with
  | .int i, .int j => CPow i j ∧ q (.int (i ^ j.toNat)) S
  | _, _ => False
def mLt : MOp := fun d e S q => match d, e with
  | .int i, .int j => q (.bl (decide (i < j))) S
  | _, _ => False
def mLe : MOp := fun d e S q => match d, e with
  | .int i, .int j => q (.bl (decide (i ≤ j))) S
  | _, _ => False
def mGt : MOp := fun d e S q => match d, e with
  | .int i, .int j => q (.bl (decide (j < i))) S
  | _, _ => False
def mGe : MOp := fun d e S q => match d, e with
  | .int i, .int j => q (.bl (decide (j ≤ i))) S
  | _, _ => False
def isNonD : D → Bool
  | .non => true
  | _ => false
def mIs : MOp := fun d e S q => match e with
  | .non => q (.bl (isNonD d)) S
  | _ => False
def mIsNot : MOp := fun d e S q => match e with
  | .non => q (.bl (!isNonD d)) S
  | _ => False
section
variable {X : Cx} {c : Cn}
theorem ne_nil_of {K : PySem.W.Frag} {mg : Mg} {r : List Addr} {H : Hp} {ds : List D} (h : RelDs K mg r H ds []) : ds = [] := by cases h; rfl
theorem om_add (hK : c.K = X.K) : OpM X c (binaryOp .Add) mAdd := ⟨_, op_add.or (op_add_ib.or (op_add_str.or (op_catA.or op_cat))), fun v u H Q z => by
  obtain ⟨r, S, d, e, q, sm, rd, re, h, g⟩ := z
  unfold mAdd at h
  split at h
  · cases rd; cases re; exact .inl ⟨_, _, rfl, rfl, g _ S r _ H h Stp.refl sm (.int _)⟩
  · cases rd; cases re; exact .inr (.inl ⟨_, _, rfl, rfl, g _ S r _ H h Stp.refl sm (.int _)⟩)
  · cases rd; cases re; exact .inr (.inr (.inl ⟨_, _, rfl, rfl, h.1, g _ S r _ H h.2 Stp.refl sm (.str _)⟩))
  · obtain ⟨a, xs, rfl, h1, h2⟩ := tup_of rd
    obtain ⟨b, ys, rfl, h3, h4⟩ := tup_of re
    refine .inr (.inr (.inr (.inl ⟨a, b, xs, ys, rfl, rfl, by rw [← hK]; exact h1, by rw [← hK]; exact h3, by rw [← h2.length, ← h4.length]; exact h.1, fun e1 => ?_, fun _ e2 => ?_, fun _ _ p np => ?_⟩)))
    · subst e1
      have e0 := ne_nil_of h2
      subst e0
      exact g _ S r _ H h.2 Stp.refl sm (.tup h3 (by simpa using h4))
    · subst e2
      have e0 := ne_nil_of h4
      subst e0
      exact g _ S r _ H h.2 Stp.refl sm (.tup h1 (by simpa using h2))
    · have t2 : Stp r H r (upd H p (.tup (xs ++ ys))) := Stp.laid np
      exact g _ S r _ _ h.2 t2 (sm.laid np) (.tup (.inl (.inl upd_same)) ((h2.append h4).mono t2))
  · split at h
    · rename_i a b ea eb
      obtain ⟨p1, vs, rfl, _, h1, h2⟩ := lst_of sm rd ea
      obtain ⟨p2, ws, rfl, _, h3, h4⟩ := lst_of sm re eb
      refine .inr (.inr (.inr (.inr ⟨p1, p2, vs, ws, rfl, rfl, h1, h3, by rw [← h2.length, ← h4.length]; exact h.1, fun p np => ?_⟩)))
      have t2 : Stp r H (r ++ [p]) (upd H p (.lst (vs ++ ws))) := Stp.cell np
      exact g _ _ (r ++ [p]) _ _ h.2 t2 (sm.cell np (.lst upd_same ((h2.append h4).mono t2))) (.ref (by rw [← sm.len, List.getElem?_append_right (Nat.le_refl _)]; simp))
    · exact h.elim
  · exact h.elim⟩
theorem om_sub : OpM X c (binaryOp .Sub) mSub := ⟨_, op_sub, fun v u H Q z => by
  obtain ⟨r, S, d, e, q, sm, rd, re, h, g⟩ := z
  unfold mSub at h
  split at h
  · cases rd; cases re; exact ⟨_, _, rfl, rfl, g _ S r _ H h Stp.refl sm (.int _)⟩
  · exact h.elim⟩
theorem om_mul : OpM X c (binaryOp .Mult) mMul := ⟨_, op_mul.or op_mulW, fun v u H Q z => by
  obtain ⟨r, S, d, e, q, sm, rd, re, h, g⟩ := z
  unfold mMul at h
  split at h
  · cases rd; cases re
    rcases h.1 with h1 | h1
    · exact .inl ⟨_, _, rfl, rfl, h1, g _ S r _ H h.2 Stp.refl sm (.int _)⟩
    · exact .inr ⟨_, _, rfl, rfl, h1, g _ S r _ H h.2 Stp.refl sm (.int _)⟩
  · exact h.elim⟩
theorem om_fdiv : OpM X c (binaryOp .FloorDiv) mFdiv := ⟨_, op_fdivW, fun v u H Q z => by
  obtain ⟨r, S, d, e, q, sm, rd, re, h, g⟩ := z
  unfold mFdiv at h
  split at h
  · cases rd; cases re; exact ⟨_, _, rfl, rfl, h.1, g _ S r _ H h.2 Stp.refl sm (.int _)⟩
  · exact h.elim⟩
theorem om_mod : OpM X c (binaryOp .Mod) mMod := ⟨_, op_mod, fun v u H Q z => by
  obtain ⟨r, S, d, e, q, sm, rd, re, h, g⟩ := z
  unfold mMod at h
  split at h
  · cases rd; cases re; exact ⟨_, _, rfl, rfl, h.1, g _ S r _ H h.2 Stp.refl sm (.int _)⟩
  · exact h.elim⟩
theorem om_pow : OpM X c (binaryOp .Pow) mPow := ⟨_, op_pow, fun v u H Q z => by
  obtain ⟨r, S, d, e, q, sm, rd, re, h, g⟩ := z
  unfold mPow at h
  split at h
  · cases rd; cases re; exact ⟨_, _, rfl, rfl, h.1, g _ S r _ H h.2 Stp.refl sm (.int _)⟩
  · exact h.elim⟩
theorem om_lt : OpM X c (compareOp .Lt) mLt := ⟨_, op_lt, fun v u H Q z => by
  obtain ⟨r, S, d, e, q, sm, rd, re, h, g⟩ := z
  unfold mLt at h
  split at h
  · cases rd; cases re; exact ⟨_, _, rfl, rfl, g _ S r _ H h Stp.refl sm (.bl _)⟩
  · exact h.elim⟩
theorem om_le : OpM X c (compareOp .LtE) mLe := ⟨_, op_le, fun v u H Q z => by
  obtain ⟨r, S, d, e, q, sm, rd, re, h, g⟩ := z
  unfold mLe at h
  split at h
  · cases rd; cases re; exact ⟨_, _, rfl, rfl, g _ S r _ H h Stp.refl sm (.bl _)⟩
  · exact h.elim⟩
theorem om_gt : OpM X c (compareOp .Gt) mGt := ⟨_, op_gt, fun v u H Q z => by
  obtain ⟨r, S, d, e, q, sm, rd, re, h, g⟩ := z
  unfold mGt at h
  split at h
  · cases rd; cases re; exact ⟨_, _, rfl, rfl, g _ S r _ H h Stp.refl sm (.bl _)⟩
  · exact h.elim⟩
theorem om_ge : OpM X c (compareOp .GtE) mGe := ⟨_, op_ge, fun v u H Q z => by
  obtain ⟨r, S, d, e, q, sm, rd, re, h, g⟩ := z
  unfold mGe at h
  split at h
  · cases rd; cases re; exact ⟨_, _, rfl, rfl, g _ S r _ H h Stp.refl sm (.bl _)⟩
  · exact h.elim⟩
theorem isNon_of {K : PySem.W.Frag} {mg : Mg} {r : List Addr} {H : Hp} {d : D} {v : V} (h : RelD K mg r H d v) : decide (v = .non) = isNonD d := by
  cases h <;> simp [isNonD]
theorem om_is : OpM X c (compareOp .Is) mIs := ⟨_, op_isN, fun v u H Q z => by
  obtain ⟨r, S, d, e, q, sm, rd, re, h, g⟩ := z
  unfold mIs at h
  split at h
  · cases re; exact ⟨rfl, by rw [isNon_of rd]; exact g _ S r _ H h Stp.refl sm (.bl _)⟩
  · exact h.elim⟩
theorem om_isNot : OpM X c (compareOp .IsNot) mIsNot := ⟨_, op_notN, fun v u H Q z => by
  obtain ⟨r, S, d, e, q, sm, rd, re, h, g⟩ := z
  unfold mIsNot at h
  split at h
  · cases re; exact ⟨rfl, by rw [isNon_of rd]; exact g _ S r _ H h Stp.refl sm (.bl _)⟩
  · exact h.elim⟩
end
/-! ### data -/
def treeL (f : D → Option PyData) : List D → Option (List PyData)
  | [] => some []
  | d :: ds => match f d, treeL f ds with
    | some a, some b => some (a :: b)
    | _, _ => none
def tree : Nat → Sto → D → Option PyData
  | 0, _, _ => none
  | k + 1, S, d => match d with
    | .non => some .none
    | .bl b => some (.bool b)
    | .int i => some (.int i)
    | .str s => some (.str s)
    | .tup ds => (treeL (tree k S) ds).map .tuple
    | .ref n => (seqO S n).bind fun ds => (treeL (tree k S) ds).map .list
    | _ => none
mutual
theorem tree_dp {c : Cn} {r : List Addr} {H : Hp} {S : Sto} (sm : c.Sm r H S) : ∀ (k : Nat) (d : D) (v : V) (p : PyData), tree k S d = some p → c.Rd r H d v → Dp c.K H v p
  | 0, d, v, p, h, _ => by unfold tree at h; cases h
  | k + 1, d, v, p, h, rd => by
    unfold tree at h
    cases d with
    | non => cases rd; cases h; exact .non
    | bl b => cases rd; cases h; exact .bl b
    | int i => cases rd; cases h; exact .int i
    | str s => cases rd; cases h; exact .str s
    | nm x => cases h
    | adr x => cases h
    | tup ds =>
      obtain ⟨a, vs, rfl, h1, h2⟩ := tup_of rd
      dsimp only at h
      cases e : treeL (tree k S) ds with
      | none => rw [e] at h; cases h
      | some ps =>
        rw [e] at h
        cases h
        exact .tup h1 (tree_dpAll sm k ds vs ps e h2)
    | ref n =>
      dsimp only at h
      cases e : seqO S n with
      | none => rw [e] at h; cases h
      | some ds =>
        rw [e] at h
        obtain ⟨a, vs, rfl, _, h1, h2⟩ := seq_of sm rd e
        dsimp only [Option.bind] at h
        cases e2 : treeL (tree k S) ds with
        | none => rw [e2] at h; cases h
        | some ps =>
          rw [e2] at h
          cases h
          exact .lst h1 (tree_dpAll sm k ds vs ps e2 h2)
theorem tree_dpAll {c : Cn} {r : List Addr} {H : Hp} {S : Sto} (sm : c.Sm r H S) : ∀ (k : Nat) (ds : List D) (vs : List V) (ps : List PyData), treeL (tree k S) ds = some ps → c.Rs r H ds vs → DpAll c.K H vs ps
  | _, [], _, ps, h, rd => by
    cases rd
    unfold treeL at h
    cases h
    exact .nil
  | k, d :: ds, _, ps, h, rd => by
    cases rd with
    | cons h1 h2 =>
      unfold treeL at h
      split at h
      · rename_i a b ea eb
        cases h
        exact .cons (tree_dp sm k d _ a ea h1) (tree_dpAll sm k ds _ b eb h2)
      · cases h
end
def mEq : MOp := fun d e S q => match tree 9 S d, tree 9 S e with
  | some a, some b => (SeqAt.shaped a = true ∧ SeqAt.shaped b = true) ∧ q (.bl (PyData.eqv a b)) S
  | _, _ => False
def mNe : MOp := fun d e S q => match tree 9 S d, tree 9 S e with
  | some a, some b => (SeqAt.shaped a = true ∧ SeqAt.shaped b = true) ∧ q (.bl (!PyData.eqv a b)) S
  | _, _ => False
section
variable {X : Cx} {c : Cn}
theorem om_eq (hK : c.K = X.K) (hu : X.A.units + 64 < cLine) : OpM X c (compareOp .Eq) mEq := ⟨_, op_eqD hu, fun v u H Q z => by
  obtain ⟨r, S, d, e, q, sm, rd, re, h, g⟩ := z
  unfold mEq at h
  split at h
  · rename_i a b ea eb
    exact ⟨a, b, by rw [← hK]; exact tree_dp sm 9 d v a ea rd, by rw [← hK]; exact tree_dp sm 9 e u b eb re, h.1.1, h.1.2, g _ S r _ H h.2 Stp.refl sm (.bl _)⟩
  · exact h.elim⟩
theorem om_ne (hK : c.K = X.K) (hu : X.A.units + 64 < cLine) : OpM X c (compareOp .NotEq) mNe := ⟨_, op_neD hu, fun v u H Q z => by
  obtain ⟨r, S, d, e, q, sm, rd, re, h, g⟩ := z
  unfold mNe at h
  split at h
  · rename_i a b ea eb
    exact ⟨a, b, by rw [← hK]; exact tree_dp sm 9 d v a ea rd, by rw [← hK]; exact tree_dp sm 9 e u b eb re, h.1.1, h.1.2, g _ S r _ H h.2 Stp.refl sm (.bl _)⟩
  · exact h.elim⟩
end
/-- in a list or a tuple -/
def mIn : MOp := fun d e S q => match tree 9 S d, tree 9 S e with
  | some a, some (.list bs) => (SeqAt.shaped a = true ∧ SeqAt.shaped (.list bs) = true) ∧ q (.bl (bs.any fun z => PyData.eqv z a)) S
  | some a, some (.tuple bs) => (SeqAt.shaped a = true ∧ SeqAt.shaped (.tuple bs) = true) ∧ q (.bl (bs.any fun z => PyData.eqv z a)) S
  | _, _ => False
def mNotIn : MOp := fun d e S q => match tree 9 S d, tree 9 S e with
  | some a, some (.list bs) => (SeqAt.shaped a = true ∧ SeqAt.shaped (.list bs) = true) ∧ q (.bl (!bs.any fun z => PyData.eqv z a)) S
  | some a, some (.tuple bs) => (SeqAt.shaped a = true ∧ SeqAt.shaped (.tuple bs) = true) ∧ q (.bl (!bs.any fun z => PyData.eqv z a)) S
  | _, _ => False
section
variable {X : Cx} {c : Cn}
def rInTup (K : PySem.W.Frag) (f : Bool → Bool) : R2 := fun x y H Q => ∃ d ds, Dp K H x d ∧ Dp K H y (.tuple ds) ∧ SeqAt.shaped d = true ∧ SeqAt.shaped (.tuple ds) = true ∧ Q (.bl (f (ds.any fun z => PyData.eqv z d))) H
theorem room_tup {d : PyData} {ds : List PyData} (h : SeqAt.shaped d = true) (hu : X.A.units + 65 < cLine) : X.A.units + 1 + min (PyData.depthAll ds) d.depth < cLine := by
  have := SeqAt.depth_of_shaped h
  have := Nat.min_le_right (PyData.depthAll ds) d.depth
  omega
theorem op_inTup (hu : X.A.units + 65 < cLine) : OpR X (compareOp .In) (rInTup X.K id) := fun pins s σ H x y v u Q I rx ry ⟨d, ds, hd, he, sd, se, q⟩ => by
  obtain ⟨_, r1⟩ := Dp.reads I d x v hd rx
  obtain ⟨_, r2⟩ := Dp.reads I (.tuple ds) y u he ry
  exact SeqAt.in_tuple_reads r2 r1 (SeqAt.canLay_of_shaped se) (SeqAt.canLay_of_shaped sd) (room_tup sd hu) ⟨.bl _, H, I, rfl, q⟩
theorem op_notInTup (hu : X.A.units + 65 < cLine) : OpR X (compareOp .NotIn) (rInTup X.K not) := fun pins s σ H x y v u Q I rx ry ⟨d, ds, hd, he, sd, se, q⟩ => by
  obtain ⟨_, r1⟩ := Dp.reads I d x v hd rx
  obtain ⟨_, r2⟩ := Dp.reads I (.tuple ds) y u he ry
  exact SeqAt.notIn_tuple_reads r2 r1 (SeqAt.canLay_of_shaped se) (SeqAt.canLay_of_shaped sd) (room_tup sd hu) ⟨.bl _, H, I, rfl, q⟩
theorem om_in (hK : c.K = X.K) (hu : X.A.units + 65 < cLine) : OpM X c (compareOp .In) mIn := ⟨_, OpR.or (op_inD hu) (op_inTup hu), fun v u H Q z => by
  obtain ⟨r, S, d, e, q, sm, rd, re, h, g⟩ := z
  unfold mIn at h
  split at h
  · rename_i a b ea eb
    exact .inl ⟨a, b, by rw [← hK]; exact tree_dp sm 9 d v a ea rd, by rw [← hK]; exact tree_dp sm 9 e u _ eb re, h.1.1, h.1.2, g _ S r _ H h.2 Stp.refl sm (.bl _)⟩
  · rename_i a b ea eb
    exact .inr ⟨a, b, by rw [← hK]; exact tree_dp sm 9 d v a ea rd, by rw [← hK]; exact tree_dp sm 9 e u _ eb re, h.1.1, h.1.2, g _ S r _ H h.2 Stp.refl sm (.bl _)⟩
  · exact h.elim⟩
theorem om_notIn (hK : c.K = X.K) (hu : X.A.units + 65 < cLine) : OpM X c (compareOp .NotIn) mNotIn := ⟨_, OpR.or (op_notInD hu) (op_notInTup hu), fun v u H Q z => by
  obtain ⟨r, S, d, e, q, sm, rd, re, h, g⟩ := z
  unfold mNotIn at h
  split at h
  · rename_i a b ea eb
    exact .inl ⟨a, b, by rw [← hK]; exact tree_dp sm 9 d v a ea rd, by rw [← hK]; exact tree_dp sm 9 e u _ eb re, h.1.1, h.1.2, g _ S r _ H h.2 Stp.refl sm (.bl _)⟩
  · rename_i a b ea eb
    exact .inr ⟨a, b, by rw [← hK]; exact tree_dp sm 9 d v a ea rd, by rw [← hK]; exact tree_dp sm 9 e u _ eb re, h.1.1, h.1.2, g _ S r _ H h.2 Stp.refl sm (.bl _)⟩
  · exact h.elim⟩
end
/-! ### -x -/
def mNeg (m : ME) : ME := fun sd S q x => m sd S (fun d S1 => match d with
  | .int i => q (.int (-i)) S1
  | _ => False) x
section
variable {X : Cx} {c : Cn} {m ma mb : ME} {a b e : Expr} {es : List Expr} {mr : MA} {pos p : Pos}
theorem me_neg (ha : PE X a (tE c m)) : PE X (.UnaryOp .USub a pos) (tE c (mNeg m)) := weakE (pe_un un_neg ha) fun s H Q z => by
  obtain ⟨r, S, sd, q, x, a, hm, g, gx⟩ := z
  refine ⟨r, S, sd, _, x, a, hm, fun d S1 r1 v H1 h1 t1 s1 rd1 => ?_, gx⟩
  cases rd1 with
  | int i => exact ⟨i, rfl, g _ S1 r1 _ H1 h1 t1 s1 (.int _)⟩
  | _ => exact h1.elim
/-! ### subscripts -/
structure IxM (X : Cx) (c : Cn) (g : MOp) : Prop where
  ok : ∃ R, IxR X R ∧ ∀ v u H Q, rOp c g v u H Q → R v u H Q
theorem me_ix {f : MOp} (h : IxM X c f) (ha : PE X a (tE c ma)) (hb : PE X b (tE c mb)) (hs : PlainIx b) : PE X (.Subscript a b pos) (tE c (mOp f ma mb)) := by
  obtain ⟨R, ho, w⟩ := h.ok
  exact weakE (pe_ix ho ha hb hs) (op_two w)
/-- a list, a tuple, a str -/
def mIx : MOp := fun d e S q => match d, e with
  | .tup ds, .int i => (match atI ds i with
    | some x => q x S
    | none => False)
  | .ref n, .int i => (match seqO S n with
    | some ds => (match atI ds i with
      | some x => q x S
      | none => False)
    | none => False)
  | .str z, .int i => z.length ≤ sizeLine ∧ (match atI z.cps.toList i with
    | some k => q (.str ⟨#[k]⟩) S
    | none => False)
  | _, _ => False
theorem RelDs.atI {K : PySem.W.Frag} {mg : Mg} {r : List Addr} {H : Hp} {ds : List D} {vs : List V} {i : Int} {d : D} (h : RelDs K mg r H ds vs) (e : L2.atI ds i = some d) : ∃ v, L2.atI vs i = some v ∧ RelD K mg r H d v := by
  unfold L2.atI at e ⊢
  rw [← h.length]
  cases k : ixN ds.length i with
  | none => rw [k] at e; cases e
  | some j =>
    rw [k] at e
    exact h.get e
theorem im_seq (hK : c.K = X.K) : IxM X c mIx := ⟨_, ix_seq, fun v u H Q z => by
  obtain ⟨r, S, d, e, q, sm, rd, re, h, g⟩ := z
  unfold mIx at h
  split at h
  · cases re
    split at h
    · rename_i ds i x ex
      obtain ⟨a, vs, rfl, h1, h2⟩ := tup_of rd
      obtain ⟨w, e1, e2⟩ := h2.atI ex
      exact .inr (.inl ⟨a, vs, _, w, rfl, rfl, by rw [← hK]; exact h1, e1, g _ S r _ H h Stp.refl sm e2⟩)
    · exact h.elim
  · cases re
    split at h
    · rename_i ds es
      split at h
      · rename_i x ex
        obtain ⟨a, vs, rfl, _, h1, h2⟩ := seq_of sm rd es
        obtain ⟨w, e1, e2⟩ := h2.atI ex
        exact .inl ⟨a, vs, _, w, rfl, rfl, by rw [← hK]; exact h1, e1, g _ S r _ H h Stp.refl sm e2⟩
      · exact h.elim
    · exact h.elim
  · cases rd; cases re
    obtain ⟨hl, h⟩ := h
    split at h
    · rename_i k ek
      exact .inr (.inr ⟨_, _, k, rfl, rfl, hl, ek, g _ S r _ H h Stp.refl sm (.str _)⟩)
    · exact h.elim
  · exact h.elim⟩
/-! ### a written table: a dict of the module with text keys -/
structure KTab (K : PySem.W.Frag) (w : World) (mg : Mg) (x : Str) (tab : List (Str × D)) : Prop where
  ex : ∃ a es n, mg x = some (.ref a) ∧ KDict K w a es n ∧ (∀ z, tab.lookup z = none → PySem.W.nsIn K a z = some none) ∧
    ∀ z d, tab.lookup z = some d → ∃ u v, PySem.W.nsIn K a z = some (some u) ∧ RelV v u ∧ ∀ r H, RelD K mg r H d v
def mIxT (x : Str) (tab : List (Str × D)) : MOp := fun d e S q => match d, e with
  | .nm y, .str z => y = x ∧ (match tab.lookup z with
    | some v => q v S
    | none => False)
  | _, _ => False
theorem im_tab {x : Str} {tab : List (Str × D)} (hK : c.K = X.K) (hm : c.mg = X.mg) (T : KTab X.K X.w X.mg x tab) : IxM X c (mIxT x tab) := ⟨_, ix_kdict, fun v u H Q z => by
  obtain ⟨cK, cmg, cP, cst, cW⟩ := c
  obtain rfl : cK = X.K := hK
  obtain rfl : cmg = X.mg := hm
  obtain ⟨r, S, d, e, q, sm, rd, re, h, g⟩ := z
  obtain ⟨a, es, n, ha, kd, _, hv⟩ := T.ex
  unfold mIxT at h
  split at h
  · obtain ⟨rfl, h⟩ := h
    cases re
    cases rd with
    | nm hb =>
      replace hb : X.mg _ = _ := hb
      rw [ha] at hb; cases hb
      split at h
      · rename_i d ed
        obtain ⟨u, v, e1, e2, e3⟩ := hv _ _ ed
        exact ⟨a, _, v, rfl, rfl, ⟨es, n, u, kd.at_, kd.lit, e1, e2⟩, g _ S r _ H h Stp.refl sm (e3 r H)⟩
      · exact h.elim
  · exact h.elim⟩
def mInT (x : Str) (tab : List (Str × D)) : MOp := fun d e S q => match d, e with
  | .str z, .nm y => y = x ∧ q (.bl (tab.lookup z).isSome) S
  | _, _ => False
theorem om_inT {x : Str} {tab : List (Str × D)} (hK : c.K = X.K) (hm : c.mg = X.mg) (T : KTab X.K X.w X.mg x tab) : OpM X c (compareOp .In) (mInT x tab) := by
  obtain ⟨a, es, n, ha, kd, hn, hv⟩ := T.ex
  refine ⟨_, op_in_kd kd, fun v u H Q z => ?_⟩
  obtain ⟨cK, cmg, cP, cst, cW⟩ := c
  obtain rfl : cK = X.K := hK
  obtain rfl : cmg = X.mg := hm
  obtain ⟨r, S, d, e, q, sm, rd, re, h, g⟩ := z
  unfold mInT at h
  split at h
  · rename_i z y
    obtain ⟨rfl, h⟩ := h
    cases rd
    cases re with
    | nm hb =>
      replace hb : X.mg _ = _ := hb
      rw [ha] at hb; cases hb
      cases ez : tab.lookup z with
      | none => rw [ez] at h; exact ⟨z, none, rfl, rfl, hn z ez, g _ S r _ H h Stp.refl sm (.bl _)⟩
      | some d =>
        obtain ⟨u, v, e1, e2, e3⟩ := hv _ _ ez
        rw [ez] at h
        exact ⟨z, some u, rfl, rfl, e1, g _ S r _ H h Stp.refl sm (.bl _)⟩
  · exact h.elim
/-- a name of the module that stands for itself -/
theorem me_nm {x : Str} {v : V} {a : Addr} (h : PE X e (tC v)) (hv : v = .ref a) (hm : c.mg x = some (.ref a)) : PE X e (tE c (mC (.nm x))) := me_c h fun _ _ => by
  subst hv
  exact .nm hm
/-! ### built-in functions by values -/
abbrev MFn := List D → Sto → QD → Prop
structure CallM (X : Cx) (c : Cn) (f : Value) (g : MFn) : Prop where
  ok : ∃ R, CallR X f R ∧ ∀ xs H Q, (∃ r S ds q, c.Sm r H S ∧ c.Rs r H ds xs ∧ g ds S q ∧ GoV c r H q Q) → R xs H Q
def mFn (g : MFn) (m : MA) : ME := fun sd S q x => m sd S (fun ds S1 => g ds S1 q) x
theorem fn_two {R : List V → Hp → VK → Prop} {g : MFn} (w : ∀ xs H Q, (∃ r S ds q, c.Sm r H S ∧ c.Rs r H ds xs ∧ g ds S q ∧ GoV c r H q Q) → R xs H Q) : ∀ s H Q, tE c (mFn g mr) s H Q → tCB R (tA c mr) s H Q := fun s H Q z => by
  obtain ⟨r, S, sd, q, x, a, hm, gv, gx⟩ := z
  exact ⟨r, S, sd, _, x, a, hm, fun ds S1 r1 vs H1 h1 t1 s1 rd1 => w _ _ _ ⟨r1, S1, ds, q, s1, rd1, h1, gv.step t1⟩, gx⟩
theorem me_fnB {x : Str} {id : String} {g : MFn} (hc : CallM X c (.builtin id) g) (hg : Gl X x) (hm : X.mg x = none) (hv : bootBuiltins x = some (.builtin id)) (ha : PA X (e :: es) (tA c mr)) (hn : x ≠ "__name__" := by decide) (hdb : (x == ("__debug__" : Str)) = false := by decide)
    (he : starEach (e :: es) X.env = (false, eval e X.env) :: starEach es X.env := by rfl) (hpl : (backTo pos (starEach es X.env)).any (·.1) = false := by rfl) : PE X (.Call (.Name x p) (e :: es) [] pos) (tE c (mFn g mr)) := by
  obtain ⟨R, ho, w⟩ := hc.ok
  exact weakE (pe_callB ho hg hm hv ha hn hdb he hpl) (fn_two w)
theorem me_fnT {x : Str} {id : String} {g : MFn} (hc : CallM X c (.type id) g) (hg : Gl X x) (hm : X.mg x = none) (hv : bootBuiltins x = some (.type id)) (ha : PA X (e :: es) (tA c mr)) (hn : x ≠ "__name__" := by decide) (hdb : (x == ("__debug__" : Str)) = false := by decide)
    (he : starEach (e :: es) X.env = (false, eval e X.env) :: starEach es X.env := by rfl) (hpl : (backTo pos (starEach es X.env)).any (·.1) = false := by rfl) : PE X (.Call (.Name x p) (e :: es) [] pos) (tE c (mFn g mr)) := by
  obtain ⟨R, ho, w⟩ := hc.ok
  exact weakE (pe_callTy ho hg hm hv ha hn hdb he hpl) (fn_two w)
def fLen : MFn := fun ds S q => match ds with
  | [.str z] => z.length ≤ sizeLine ∧ q (.int z.length) S
  | [.tup xs] => q (.int xs.length) S
  | [.ref n] => (match seqO S n with
    | some xs => q (.int xs.length) S
    | none => False)
  | _ => False
theorem rs1 {K : PySem.W.Frag} {mg : Mg} {r : List Addr} {H : Hp} {d : D} {xs : List V} (h : RelDs K mg r H [d] xs) : ∃ v, xs = [v] ∧ RelD K mg r H d v := by
  cases h with
  | cons h1 h2 => cases h2; exact ⟨_, rfl, h1⟩
theorem rs2 {K : PySem.W.Frag} {mg : Mg} {r : List Addr} {H : Hp} {d e : D} {xs : List V} (h : RelDs K mg r H [d, e] xs) : ∃ v u, xs = [v, u] ∧ RelD K mg r H d v ∧ RelD K mg r H e u := by
  cases h with
  | cons h1 h2 =>
    obtain ⟨u, rfl, h3⟩ := rs1 h2
    exact ⟨_, u, rfl, h1, h3⟩
theorem cm_len (hK : c.K = X.K) : CallM X c (.builtin "len") fLen := ⟨_, call_len, fun xs H Q z => by
  obtain ⟨r, S, ds, q, sm, rd, h, g⟩ := z
  unfold fLen at h
  split at h
  · obtain ⟨v, rfl, rv⟩ := rs1 rd
    cases rv
    exact ⟨_, _, rfl, ⟨h.1, rfl⟩, g _ S r _ H h.2 Stp.refl sm (.int _)⟩
  · obtain ⟨v, rfl, rv⟩ := rs1 rd
    obtain ⟨a, vs, rfl, h1, h2⟩ := tup_of rv
    exact ⟨_, vs.length, rfl, .inr ⟨vs, by rw [← hK]; exact h1, rfl⟩, by rw [← h2.length]; exact g _ S r _ H h Stp.refl sm (.int _)⟩
  · obtain ⟨v, rfl, rv⟩ := rs1 rd
    split at h
    · rename_i es
      obtain ⟨a, vs, rfl, _, h1, h2⟩ := seq_of sm rv es
      exact ⟨_, vs.length, rfl, .inl ⟨vs, by rw [← hK]; exact h1, rfl⟩, by rw [← h2.length]; exact g _ S r _ H h Stp.refl sm (.int _)⟩
    · exact h.elim
  · exact h.elim⟩
def fMax2 : MFn := fun ds S q => match ds with
  | [.int i, .int j] => q (.int (if j > i then j else i)) S
  | _ => False
def fMin2 : MFn := fun ds S q => match ds with
  | [.int i, .int j] => q (.int (if j < i then j else i)) S
  | _ => False
def fAbs : MFn := fun ds S q => match ds with
  | [.int i] => q (.int (if i < 0 then -i else i)) S
  | _ => False
def fInt : MFn := fun ds S q => match ds with
  | [.int i] => q (.int i) S
  | [.bl k] => q (.int (if k then 1 else 0)) S
  | _ => False
def fBool : MFn := fun ds S q => match ds with
  | [.int i] => q (.bl (i != 0)) S
  | [.bl k] => q (.bl k) S
  | _ => False
theorem cm_max2 (hc : X.calm = true) : CallM X c (.builtin "max") fMax2 := ⟨_, call_max2 hc, fun xs H Q z => by
  obtain ⟨r, S, ds, q, sm, rd, h, g⟩ := z
  unfold fMax2 at h
  split at h
  · obtain ⟨v, u, rfl, rv, ru⟩ := rs2 rd
    cases rv; cases ru
    exact ⟨_, _, rfl, g _ S r _ H h Stp.refl sm (.int _)⟩
  · exact h.elim⟩
theorem cm_min2 (hc : X.calm = true) : CallM X c (.builtin "min") fMin2 := ⟨_, call_min2 hc, fun xs H Q z => by
  obtain ⟨r, S, ds, q, sm, rd, h, g⟩ := z
  unfold fMin2 at h
  split at h
  · obtain ⟨v, u, rfl, rv, ru⟩ := rs2 rd
    cases rv; cases ru
    exact ⟨_, _, rfl, g _ S r _ H h Stp.refl sm (.int _)⟩
  · exact h.elim⟩
theorem cm_abs : CallM X c (.builtin "abs") fAbs := ⟨_, call_abs, fun xs H Q z => by
  obtain ⟨r, S, ds, q, sm, rd, h, g⟩ := z
  unfold fAbs at h
  split at h
  · obtain ⟨v, rfl, rv⟩ := rs1 rd
    cases rv
    exact ⟨_, rfl, g _ S r _ H h Stp.refl sm (.int _)⟩
  · exact h.elim⟩
theorem cm_int : CallM X c (.type "int") fInt := ⟨_, call_int1, fun xs H Q z => by
  obtain ⟨r, S, ds, q, sm, rd, h, g⟩ := z
  unfold fInt at h
  split at h
  · obtain ⟨v, rfl, rv⟩ := rs1 rd
    cases rv
    exact .inl ⟨_, rfl, g _ S r _ H h Stp.refl sm (.int _)⟩
  · obtain ⟨v, rfl, rv⟩ := rs1 rd
    cases rv
    exact .inr ⟨_, rfl, g _ S r _ H h Stp.refl sm (.int _)⟩
  · exact h.elim⟩
theorem cm_bool : CallM X c (.type "bool") fBool := ⟨_, call_bool1, fun xs H Q z => by
  obtain ⟨r, S, ds, q, sm, rd, h, g⟩ := z
  unfold fBool at h
  split at h
  · obtain ⟨v, rfl, rv⟩ := rs1 rd
    cases rv
    exact .inl ⟨_, rfl, g _ S r _ H h Stp.refl sm (.bl _)⟩
  · obtain ⟨v, rfl, rv⟩ := rs1 rd
    cases rv
    exact .inr ⟨_, rfl, g _ S r _ H h Stp.refl sm (.bl _)⟩
  · exact h.elim⟩
end
end Lw

namespace Lw
open PySem PySem.Spec PyProof.Rows L2

/-! ### the type of a value -/
inductive Kd where
  | b (n : String) | o (c : Str)
  deriving DecidableEq
def tyD (S : Sto) : D → Option Kd
  | .non => some (.b "NoneType")
  | .bl _ => some (.b "bool")
  | .int _ => some (.b "int")
  | .str _ => some (.b "str")
  | .tup _ => some (.b "tuple")
  | .ref n => match S[n]? with
    | some (.lst _) => some (.b "list")
    | some (.frz _) => some (.b "list")
    | some (.ins c _) => some (.o c)
    | some (.dic _) => some (.b "dict")
    | _ => none
  | _ => none
/-- an own class whose instances may be asked for -/
structure OwnC (K : PySem.W.Frag) (C : Addr) : Prop where
  cl : L2.Cls K C
  ha : PySem.W.findIn K (.ref C) "__class__" = some (some (.builtin "object.__class__"))
  hn : PySem.W.specialIn K (.builtin "object.__class__") "__get__" = some (some (.builtin "getset_descriptor.__get__"))
  ht : PySem.W.takesIn K (.builtin "object.__class__") = some true
  hm : PySem.W.mroIn K C (.type "object") = some true
section
variable {c : Cn} {r : List Addr} {H : Hp} {S : Sto} {d : D} {v : V}
theorem tyB_of {t : String} (sm : c.Sm r H S) (rd : c.Rd r H d v) (h : tyD S d = some (.b t)) : TyX c.K H v (.type t) := by
  cases d with
  | non => cases rd; cases h; exact .base .non
  | bl b => cases rd; cases h; exact .base (.bl b)
  | int i => cases rd; cases h; exact .base (.int i)
  | str s => cases rd; cases h; exact .base (.str s)
  | nm x => cases h
  | adr x => cases h
  | tup ds =>
    obtain ⟨a, vs, rfl, h1, h2⟩ := tup_of rd
    cases h
    rcases h1 with (h1 | ⟨o, h1⟩) | ⟨o, its, n, h1, h2, _⟩
    · exact .base (.tup h1)
    · exact .fTuple h1
    · exact .kTuple h1 h2
  | ref n =>
    cases rd with
    | ref hr =>
      unfold tyD at h
      dsimp only at h
      split at h
      · rename_i ds hS
        cases h
        cases sm.obj _ _ _ hS hr with
        | lst h1 _ => exact .base (.lst h1)
      · rename_i ds hS
        cases h
        cases sm.obj _ _ _ hS hr with
        | frz h1 _ => exact .base (.frz h1)
      · cases h
      · rename_i kvs hS
        cases h
        cases sm.obj _ _ _ hS hr with
        | dic _ h1 => exact .base (.dK h1)
      · cases h
theorem tyO_of {k : Str} {C : Addr} (sm : c.Sm r H S) (rd : c.Rd r H d v) (h : tyD S d = some (.o k)) (hC : c.mg k = some (.ref C)) (oc : OwnC c.K C) : TyX c.K H v (.ref C) := by
  cases d with
  | ref n =>
    cases rd with
    | ref hr =>
      unfold tyD at h
      dsimp only at h
      split at h
      · cases h
      · cases h
      · rename_i k' fs hS
        cases h
        cases sm.obj _ _ _ hS hr with
        | ins h1 _ h3 _ =>
          rw [hC] at h3; cases h3
          exact .base (.ins h1 oc.cl oc.ha oc.hn oc.ht oc.hm)
      · cases h
      · cases h
  | _ => cases h
end
/-- what is known of the own classes of the list cs -/
structure Owns (K : PySem.W.Frag) (mg : Mg) (cs : List Str) : Prop where
  at_ : ∀ k ∈ cs, ∃ C, mg k = some (.ref C) ∧ OwnC K C
/-- the kinds -/
def kinds : List String := ["NoneType", "bool", "int", "str", "tuple", "list", "dict"]
theorem tyB_kind {S : Sto} {d : D} {t : String} (h : tyD S d = some (.b t)) : t ∈ kinds := by
  cases d with
  | nm _ => cases h
  | adr _ => cases h
  | ref n =>
    unfold tyD at h
    dsimp only at h
    split at h <;> first | (cases h; decide) | cases h
  | _ => cases h; decide
/-! ### isinstance(x, T) -/
def isB (T s : String) : Bool := s == T || (T == "int" && s == "bool")
def mIsiB (T : String) (cs : List Str) (m : ME) : ME := fun sd S q x => m sd S (fun d S1 => match tyD S1 d with
  | some (.b s) => q (.bl (isB T s)) S1
  | some (.o k) => k ∈ cs ∧ q (.bl false) S1
  | none => False) x
def mIsiO (cn : Str) (cs : List Str) (m : ME) : ME := fun sd S q x => m sd S (fun d S1 => match tyD S1 d with
  | some (.b s) => q (.bl false) S1
  | some (.o k) => k ∈ cs ∧ q (.bl (k == cn)) S1
  | none => False) x
section
variable {X : Cx} {c : Cn} {m ma mb : ME} {a b e o : Expr} {es : List Expr} {mr : MA} {p p2 pos : Pos} {cs : List Str}
theorem me_isiB {T : String} {x y : Str} (hg : Gl X x) (hmx : X.mg x = none) (hv : bootBuiltins x = some (.builtin "isinstance")) (hg2 : Gl X y) (hmy : X.mg y = none) (hv2 : bootBuiltins y = some (.type T)) (he : PE X e (tE c m)) (hK : c.K = X.K) (hm : c.mg = X.mg) (O : Owns X.K X.mg cs)
    (hB : ∀ s ∈ kinds, kitB s T = some (isB T s)) (hO : ∀ k ∈ cs, ∀ C, X.mg k = some (.ref C) → PySem.W.kitOne X.K (.ref C) (.type T) = some false)
    (hn : x ≠ "__name__" := by decide) (hdb : (x == ("__debug__" : Str)) = false := by decide) (hn2 : y ≠ "__name__" := by decide) (hdb2 : (y == ("__debug__" : Str)) = false := by decide)
    (hs : starEach (e :: [Expr.Name y p2]) X.env = (false, eval e X.env) :: starEach [Expr.Name y p2] X.env := by rfl) (hpl : (backTo pos (starEach [Expr.Name y p2] X.env)).any (·.1) = false := by rfl)
    (hs2 : starEach [Expr.Name y p2] X.env = (false, eval (Expr.Name y p2) X.env) :: starEach [] X.env := by rfl) :
    PE X (.Call (.Name x p) [e, .Name y p2] [] pos) (tE c (mIsiB T cs m)) := by
  obtain ⟨cK, cmg, cP, cst, cW⟩ := c
  obtain rfl : cK = X.K := hK
  obtain rfl : cmg = X.mg := hm
  refine weakE (pe_callB call_isi hg hmx hv (pa_cons he (pa_cons (pe_bltn hg2 hmy hv2 (show RelV (.ty T) (.type T) from rfl) hn2 hdb2) pa_nil hs2) hs) hn hdb hs hpl) fun s H Q z => ?_
  obtain ⟨r, S, sd, q, xx, a, hm, g, gx⟩ := z
  refine ⟨r, S, sd, _, xx, a, hm, fun d S1 r1 v H1 h1 t1 s1 rd1 => ?_, gx⟩
  dsimp only at h1
  split at h1
  · rename_i s es
    exact ⟨v, .ty T, _, _, _, rfl, .ty T, tyB_of s1 rd1 es, kit_ty (hB s (tyB_kind es)), g _ S1 r1 _ H1 h1 t1 s1 (.bl _)⟩
  · rename_i k es
    obtain ⟨C, hC, oc⟩ := O.at_ k h1.1
    exact ⟨v, .ty T, _, _, _, rfl, .ty T, tyO_of s1 rd1 es hC oc, hO k h1.1 C hC, g _ S1 r1 _ H1 h1.2 t1 s1 (.bl _)⟩
  · exact h1.elim
theorem me_isiO {x y : Str} {C0 : Addr} (hg : Gl X x) (hmx : X.mg x = none) (hv : bootBuiltins x = some (.builtin "isinstance")) (hg2 : Gl X y) (hmy : X.mg y = some (.ref C0)) (he : PE X e (tE c m)) (hK : c.K = X.K) (hm : c.mg = X.mg) (O : Owns X.K X.mg cs)
    (hB : ∀ s ∈ kinds, PySem.W.kitOne X.K (.type s) (.ref C0) = some false) (hO : ∀ k ∈ cs, ∀ C, X.mg k = some (.ref C) → PySem.W.kitOne X.K (.ref C) (.ref C0) = some (k == y))
    (hn : x ≠ "__name__" := by decide) (hdb : (x == ("__debug__" : Str)) = false := by decide) (hdb2 : (y == ("__debug__" : Str)) = false := by decide)
    (hs : starEach (e :: [Expr.Name y p2]) X.env = (false, eval e X.env) :: starEach [Expr.Name y p2] X.env := by rfl) (hpl : (backTo pos (starEach [Expr.Name y p2] X.env)).any (·.1) = false := by rfl)
    (hs2 : starEach [Expr.Name y p2] X.env = (false, eval (Expr.Name y p2) X.env) :: starEach [] X.env := by rfl) :
    PE X (.Call (.Name x p) [e, .Name y p2] [] pos) (tE c (mIsiO y cs m)) := by
  obtain ⟨cK, cmg, cP, cst, cW⟩ := c
  obtain rfl : cK = X.K := hK
  obtain rfl : cmg = X.mg := hm
  refine weakE (pe_callB call_isi hg hmx hv (pa_cons he (pa_cons (pe_glob hg2 hmy (show RelV (.ref C0) (.ref C0) from rfl) hdb2) pa_nil hs2) hs) hn hdb hs hpl) fun s H Q z => ?_
  obtain ⟨r, S, sd, q, xx, a, hm, g, gx⟩ := z
  refine ⟨r, S, sd, _, xx, a, hm, fun d S1 r1 v H1 h1 t1 s1 rd1 => (?_ : tCons (tC (V.ref C0)) tNil s H1 fun xs H2 => rIsi X.K (v :: xs) H2 Q), gx⟩
  dsimp only at h1
  split at h1
  · rename_i s es
    exact ⟨v, .ref C0, _, _, _, rfl, .own C0, tyB_of s1 rd1 es, hB s (tyB_kind es), g _ S1 r1 _ H1 h1 t1 s1 (.bl _)⟩
  · rename_i k es
    obtain ⟨C, hC, oc⟩ := O.at_ k h1.1
    exact ⟨v, .ref C0, _, _, _, rfl, .own C0, tyO_of s1 rd1 es hC oc, hO k h1.1 C hC, g _ S1 r1 _ H1 h1.2 t1 s1 (.bl _)⟩
  · exact h1.elim
/-! ### repr of data -/
def reprOk (p : PyData) : Bool := p.showable && decide (p.depth ≤ 64) && decide (p.shown.length ≤ sizeLine) && !p.hasDict
/-- a dict of ints -/
def dicP : List (D × D) → Option (List (PyData × PyData))
  | [] => some []
  | (.int i, .int j) :: r => (dicP r).map ((.int i, .int j) :: ·)
  | _ => none
theorem dicP_ints : ∀ ks : List (Int × Int), dicP (ks.map fun p => (D.int p.1, D.int p.2)) = some (ks.map fun p => (PyData.int p.1, PyData.int p.2))
  | [] => rfl
  | p :: ks => by
    rw [List.map_cons, dicP, dicP_ints ks]
    rfl
def dicR (S : Sto) (d : D) : Option PyData := match d with
  | .ref n => (match S[n]? with
    | some (.dic kvs) => (dicP kvs).map .dict
    | _ => none)
  | _ => none
/-- of a dict of ints -/
def reprOkD (p : PyData) : Bool := p.showable && decide (p.depth ≤ 64) && decide (p.shown.length ≤ sizeLine)
def fRepr : MFn := fun ds S q => match ds with
  | [d] => (match tree 9 S d with
    | some p => reprOk p = true ∧ q (.str p.shown) S
    | none => (match dicR S d with
      | some p => reprOkD p = true ∧ q (.str p.shown) S
      | none => False))
  | _ => False
theorem call_reprD (hg : X.A.guards = some []) (hu : X.A.units + 70 < cLine) : CallR X (.builtin "repr") (fun xs H Q => ∃ v p, xs = [v] ∧ Dp X.K H v p ∧ reprOk p = true ∧ Q (.str p.shown) H) := by
  intro pins s σ H xs us Q I r h
  obtain ⟨v, p, rfl, dp, ok, q⟩ := h
  obtain ⟨u, rfl, rv⟩ := vals1 r
  unfold reprOk at ok
  rw [Bool.and_eq_true, Bool.and_eq_true, Bool.and_eq_true] at ok
  obtain ⟨⟨⟨hs, hd⟩, hz⟩, hh⟩ := ok
  have hd := of_decide_eq_true hd
  have hz := of_decide_eq_true hz
  have hh : p.hasDict = false := by simpa using hh
  cases dp with
  | non => cases rv; exact P.repr_of_none ⟨.str _, H, I.tok _, ⟨_, rfl⟩, q⟩
  | bl b => cases rv; exact P.repr_of_bool ⟨.str _, H, I.tok _, ⟨_, rfl⟩, q⟩
  | int i => obtain ⟨t, rfl⟩ := rv; exact P.repr_of_int (of_decide_eq_true (by simpa [PyData.showable] using hs)) ⟨.str _, H, I.tok _, ⟨_, rfl⟩, q⟩
  | str x => obtain ⟨t, rfl⟩ := rv; exact P.repr_of_str ⟨.str _, H, I.tok _, ⟨_, rfl⟩, q⟩ hz
  | lst h1 h2 =>
    have dp : Dp X.K H _ _ := .lst h1 h2
    obtain ⟨as, rr⟩ := Dp.reads I _ _ _ dp rv
    cases rv
    exact repr_of_reads' rr hs (fun z => by rw [hh] at z; cases z) hg (by omega) (fun _ _ e => e) (fun h' u tk hk => ⟨.str _, H, I.kept hk, ⟨_, rfl⟩, q⟩) hz
  | tup h1 h2 =>
    have dp : Dp X.K H _ _ := .tup h1 h2
    obtain ⟨as, rr⟩ := Dp.reads I _ _ _ dp rv
    cases rv
    exact repr_of_reads' rr hs (fun z => by rw [hh] at z; cases z) hg (by omega) (fun _ _ e => e) (fun h' u tk hk => ⟨.str _, H, I.kept hk, ⟨_, rfl⟩, q⟩) hz
theorem readsK {P : Program} {w : World} {h : Heap} : ∀ {ks : List (Int × Int)} {es : List DictEntry} {vs : List (Key × Value)}, KV (ks.map fun p => ((Sum.inl p.1 : Key), V.int p.2)) vs → Pairs (mixKind P w) es vs →
    ReadsAll h (es.map (·.key)) (ks.map fun p => PyData.int p.1) [] ∧ ReadsAll h (es.map (·.val)) (ks.map fun p => PyData.int p.2) []
  | [], _, _, k, p => by
    cases k
    cases p
    exact ⟨.nil, .nil⟩
  | q :: ks, _, _, k, p => by
    rw [List.map_cons] at k
    cases k with
    | cons r k =>
      cases p with
      | @cons e0 _ _ _ h1 h2 p =>
        obtain ⟨i1, i2⟩ := readsK (h := h) k p
        obtain ⟨r1, r2⟩ := r
        rw [← r1] at h1
        have h1 : keyIs (Sum.inl q.1) e0.key = true := h1
        rcases keyIs_shape h1 with ⟨i, t, e1, e2⟩ | ⟨y, t, e1, _⟩
        · cases e1
          obtain ⟨t2, e3⟩ := r2
          rw [List.map_cons, List.map_cons, List.map_cons, List.map_cons, e2, h2, e3]
          exact ⟨.cons (.int _ _) i1, .cons (.int _ _) i2⟩
        · cases e1
theorem call_reprX (hg : X.A.guards = some []) (hu : X.A.units + 70 < cLine) : CallR X (.builtin "repr") (fun xs H Q => ∃ (a : Addr) (ks : List (Int × Int)), xs = [.ref a] ∧ H a = some (.dK (ks.map fun p => (Sum.inl p.1, V.int p.2))) ∧ reprOkD (.dict (ks.map fun p => (PyData.int p.1, PyData.int p.2))) = true ∧ Q (.str (PyData.dict (ks.map fun p => (PyData.int p.1, PyData.int p.2))).shown) H) := by
  intro pins s σ H xs us Q I r h
  obtain ⟨a, ks, rfl, e, ok, q⟩ := h
  obtain ⟨u, rfl, rv⟩ := vals1 r
  cases rv
  unfold reprOkD at ok
  rw [Bool.and_eq_true, Bool.and_eq_true] at ok
  obtain ⟨⟨hs, hd⟩, hz⟩ := ok
  have hd := of_decide_eq_true hd
  have hz := of_decide_eq_true hz
  obtain ⟨_, hm, vs, kv, o, es, ep, ho, hex, hdat, _, pr, _⟩ := dk_of I.hok e
  obtain ⟨r1, r2⟩ := readsK (h := s.heap) kv pr
  have rr : Reads s.heap (.ref a) (.dict (ks.map fun p => (PyData.int p.1, PyData.int p.2))) (a :: [] ++ []) := .dict ho hex.1 hdat (by simpa [Function.comp_def] using r1) (by simpa [Function.comp_def] using r2)
  exact repr_of_reads' rr hs (fun _ z => by
    have e : sysModules = a := by simpa using z
    rw [e] at hm
    simp at hm) hg (by omega) (fun _ _ e => e) (fun h' u tk hk => ⟨.str _, H, I.kept hk, ⟨_, rfl⟩, q⟩) hz
theorem cm_repr (hK : c.K = X.K) (hg : X.A.guards = some []) (hu : X.A.units + 70 < cLine) : CallM X c (.builtin "repr") fRepr := ⟨_, CallR.or (call_reprD hg hu) (call_reprX hg hu), fun xs H Q z => by
  obtain ⟨r, S, ds, q, sm, rd, h, g⟩ := z
  unfold fRepr at h
  split at h
  · obtain ⟨v, rfl, rv⟩ := rs1 rd
    split at h
    · rename_i p ep
      exact .inl ⟨v, p, rfl, by rw [← hK]; exact tree_dp sm 9 _ v p ep rv, h.1, g _ S r _ H h.2 Stp.refl sm (.str _)⟩
    · split at h
      · rename_i p ep
        unfold dicR at ep
        split at ep
        · split at ep
          · rename_i n kvs hS
            cases rv with
            | ref hr =>
              cases sm.obj _ _ _ hS hr with
              | dic e1 h1 =>
                rw [e1, dicP_ints, Option.map_some] at ep
                cases ep
                exact .inr ⟨_, _, rfl, h1, h.1, g _ S r _ H h.2 Stp.refl sm (.str _)⟩
          · cases ep
        · cases ep
      · exact h.elim
  · exact h.elim⟩
end
end Lw

namespace Lw
open PySem PySem.Spec PyProof.Rows L2

/-! ### own operators -/
/-- an own method under a special name -/
structure OpF (X : Cx) (cn : Str) (nm : Str) (C f : Addr) (u : Spec) (k : Nat) : Prop where
  mg : X.mg cn = some (.ref C)
  at_ : PySem.W.findIn X.K (.ref C) nm = some (some (.ref f))
  fn : PySem.W.isFn X.K (.ref f) = true
  fi : PySem.W.fnIn X.K f = true
  F : Fn X k f u []
section
variable {X : Cx} {c : Cn} {m ma mb : ME} {a b e o : Expr} {es : List Expr} {mr : MA} {p pos : Pos} {k : Nat} {f C : Addr} {u : Spec} {cn : Str}
theorem inst_of {pins : List (Addr × Obj)} {σ : L2.St} {H : Hp} {s : Shared} {x dx : Addr} {fs : List (Str × V)} (I : Inv X pins σ H s) (ea : H x = some (.ins C dx fs)) : ∃ od, PySem.W.InstAt s.heap x (PySem.W.instObj C dx) C (some od) := by
  obtain ⟨mA, O, _, _, _, _⟩ := ins_get I.hok ea
  obtain ⟨od, J, _⟩ := O.look
  exact ⟨od, J⟩
/-- a value that stands for something is not NotImplemented -/
theorem back_of {pins : List (Addr × Obj)} {σ : L2.St} {Q : VK} {v : Value} {s : Shared} (h : EP X pins σ Q v s) : PySem.W.CmpBack (EP X pins σ Q) v s := by
  obtain ⟨d, H', I, rd, q⟩ := id h
  cases v <;> first
    | exact h
    | (cases d <;> first | (cases rd; done) | (obtain ⟨_, z⟩ := rd; cases z))
/-- a one-place operator of an own class, by value -/
def mUnO (cn : Str) (u : Spec) (m : ME) : ME := fun sd S q x => m sd S (fun d S1 => isIns cn d S1 fun _ => u [d] S1 q x) x
theorem un_run {pins : List (Addr × Obj)} {σ : L2.St} {H : Hp} {s : Shared} {Q : VK} {R : Value → Shared → Prop} (ho : PE X a (tE c m)) (hc : CallOk X c k) (hC : X.mg cn = some (.ref C)) (F : Fn X k f u []) (I : Inv X pins σ H s) (h : tE c (mUnO cn u m) σ H Q)
    (go : ∀ s1 x (od : Obj × Obj) H1, Inv X pins σ H1 s1 → PySem.W.InstAt s1.heap x od.1 C (some od.2) → wpAny (model X.prog X.w) X.A (call (.ref f) [.ref x]) (EP X pins σ Q) X.xe s1 → R (.ref x) s1) : wpAny (model X.prog X.w) X.A (eval a X.env) R X.xe s := by
  obtain ⟨r, S, sd, q, xx, aa, hm, g, gx⟩ := h
  refine thn (ho.run pins s σ H (fun v H1 => ∃ x dx fs, v = V.ref x ∧ H1 x = some (.ins C dx fs) ∧ ∃ r1 S1 d, c.Sm r1 H1 S1 ∧ c.Rd r1 H1 d v ∧ Stp r H r1 H1 ∧ u [d] S1 q xx) I ⟨r, S, sd, _, xx, aa, hm, fun d S1 r1 v H1 h1 t1 sm1 rd1 => ?_, gx⟩) fun uu s1 ⟨v, H1, I1, rx, x, dx, fs, ev, ea, r1, S1, d, sm, rd, t, hu⟩ => ?_
  · obtain ⟨i, fs, x, dx, vs, rfl, rfl, _, _, e1, _, _, hu⟩ := isIns_of (C := C) h1 sm1 rd1 (by rw [hc.mg]; exact hC)
    exact ⟨x, dx, vs, rfl, e1, r1, S1, _, sm1, rd1, t1, hu⟩
  · subst ev
    obtain rfl : uu = Value.ref x := rx
    obtain ⟨od, J⟩ := inst_of I1 ea
    exact go s1 x ⟨_, od⟩ H1 I1 J (fn_run (us := [.ref x]) (vs := [.ref x]) (dl := [d]) F hc I1 (.cons rfl .nil) sm (.cons rd .nil) hu (g.step t) (gx.step t))
theorem me_inv (O : OpF X cn "__invert__" C f u k) (hc : CallOk X c k) (ha : PE X a (tE c m)) : PE X (.UnaryOp .Invert a pos) (tE c (mUnO cn u m)) :=
  ⟨fun pins s σ H Q I h => UnaryOp_ (un_run ha hc O.mg O.F I h fun s1 x od H1 I1 J z => by
    obtain ⟨mm, fr⟩ := I1.fr
    exact PySem.W.ksp_inv fr I1.ok.mod.kin J O.at_ O.fn z)⟩
theorem me_negO (O : OpF X cn "__neg__" C f u k) (hc : CallOk X c k) (ha : PE X a (tE c m)) : PE X (.UnaryOp .USub a pos) (tE c (mUnO cn u m)) :=
  ⟨fun pins s σ H Q I h => UnaryOp_ (un_run ha hc O.mg O.F I h fun s1 x od H1 I1 J z => by
    obtain ⟨mm, fr⟩ := I1.fr
    exact PySem.W.ksp_neg fr I1.ok.mod.kin J O.at_ O.fn z)⟩
/-! two places: a, b evaluated, then the own method of a's class -/
def okR (cn : Str) (e : D) (S : Sto) : Prop := match tyD S e with
  | some (.b _) => True
  | some (.o k) => k = cn
  | none => False
def mBinO (cn : Str) (u : Spec) (a b : ME) : ME := fun sd S q x => a sd S (fun d S1 => b sd S1 (fun e S2 => isIns cn d S2 fun _ => okR cn e S2 ∧ u [d, e] S2 q x) x) x
/-- what stands on the right -/
inductive RightT (X : Cx) (C : Addr) (u : Value) (h : Heap) : Prop
  | same (L : PySem.W.Looks (model X.prog X.w) h (typeOf u) (.ref C))
  | blt (T : String) (hT : T ∈ kinds) (L : PySem.W.Looks (model X.prog X.w) h (typeOf u) (.type T))
theorem bin_run {pins : List (Addr × Obj)} {σ : L2.St} {H : Hp} {s : Shared} {Q : VK} {op : Value → Value → Sem Value} (ho : PE X a (tE c ma)) (hb : PE X b (tE c mb)) (hc : CallOk X c k) (hC : X.mg cn = some (.ref C)) (oc : OwnC X.K C) (F : Fn X k f u []) (I : Inv X pins σ H s) (h : tE c (mBinO cn u ma mb) σ H Q)
    (go : ∀ s1 x (od : Obj × Obj) w H1, Inv X pins σ H1 s1 → PySem.W.InstAt s1.heap x od.1 C (some od.2) → RightT X C w s1.heap → wpAny (model X.prog X.w) X.A (call (.ref f) [.ref x, w]) (EP X pins σ Q) X.xe s1 → wpAny (model X.prog X.w) X.A (op (.ref x) w) (EP X pins σ Q) X.xe s1) :
    wpAny (model X.prog X.w) X.A (eval a X.env) (fun v s₁ => wpAny (model X.prog X.w) X.A (eval b X.env) (fun u s₂ => wpAny (model X.prog X.w) X.A (op v u) (EP X pins σ Q) X.xe s₂) X.xe s₁) X.xe s := by
  obtain ⟨r, S, sd, q, xx, aa, hm, g, gx⟩ := h
  refine thn (ho.run pins s σ H (fun v H1 => ∃ r1 S1 d, At c r1 S1 sd σ H1 ∧ c.Rd r1 H1 d v ∧ Stp r H r1 H1 ∧ mb sd S1 (fun e S2 => isIns cn d S2 fun _ => okR cn e S2 ∧ u [d, e] S2 q xx) xx) I ⟨r, S, sd, _, xx, aa, hm, fun d S1 r1 v H1 h1 t1 sm1 rd1 => ⟨r1, S1, d, aa.step t1 sm1, rd1, t1, h1⟩, gx⟩) fun v s1 ⟨vx, H1, I1, rx, r1, S1, d, a1, rd1, t1, h1⟩ => ?_
  refine thn (hb.run pins s1 σ H1 (fun w H2 => ∃ r2 S2 e, c.Sm r2 H2 S2 ∧ c.Rd r2 H2 e w ∧ Stp r1 H1 r2 H2 ∧ isIns cn d S2 fun _ => okR cn e S2 ∧ u [d, e] S2 q xx) I1 ⟨r1, S1, sd, _, xx, a1, h1, fun e S2 r2 w H2 h2 t2 sm2 rd2 => ⟨r2, S2, e, sm2, rd2, t2, h2⟩, gx.step t1⟩) fun w s2 ⟨wx, H2, I2, ry, r2, S2, e, sm2, rd2, t2, h2⟩ => ?_
  obtain ⟨i, fs, x, dx, vs, rfl, rfl, _, _, e1, _, _, ok, hu⟩ := isIns_of (C := C) h2 sm2 (rd1.mono t2) (by rw [hc.mg]; exact hC)
  obtain rfl : v = Value.ref x := rx
  obtain ⟨od, J⟩ := inst_of I2 e1
  have t12 := t1.trans t2
  refine go s2 x ⟨_, od⟩ w H2 I2 J ?_ (fn_run (us := [.ref x, w]) (vs := [.ref x, wx]) (dl := [.ref i, e]) F hc I2 (.cons rfl (.cons ry .nil)) sm2 (.cons (rd1.mono t2) (.cons rd2 .nil)) hu (g.step t12) (gx.step t12))
  unfold okR at ok
  cases et : tyD S2 e with
  | none => rw [et] at ok; exact ok.elim
  | some kd =>
    rw [et] at ok
    cases kd with
    | b T =>
      have tx := tyB_of sm2 rd2 et
      rw [hc.K] at tx
      obtain ⟨P, Z, pp, _⟩ := kit_of I2 ry tx
      exact .blt T (tyB_kind et) (Z.ty _ _ I2.kIn pp)
    | o k' =>
      obtain rfl : k' = cn := ok
      have tx := tyO_of sm2 rd2 et (by rw [hc.mg]; exact hC) (by rw [hc.K]; exact oc)
      rw [hc.K] at tx
      obtain ⟨P, Z, pp, _⟩ := kit_of I2 ry tx
      exact .same (Z.ty _ _ I2.kIn pp)
/-- what the written part says of a class with a two-place operator -/
structure BinF (K : PySem.W.Frag) (C : Addr) (nm : String) : Prop where
  sf : PySem.W.selfFirst K C = true
  rv : PySem.W.findIn K (.ref C) (dunderR nm) = some none
  bt : ∀ T ∈ kinds, (PySem.W.findIn K (.type T) (PySem.dunder nm)).isSome = true ∧ (PySem.W.findIn K (.type T) (dunderR nm)).isSome = true ∧ PySem.W.subIn K (.type T) (.ref C) = some false
end
section
variable {prog : Program} {w : World} {A : Around} {E : Value → Shared → Prop} {st : Shared} {K : PySem.W.Frag} {ix ca lv fa : Addr} {hb0 : Heap} {mm : Str → Option Value} {oi : Obj} {oe : Option Obj} {T : String}
open PySem.W in
/-- an own operator with a value of a built-in type on the right -/
theorem bin_blt {op : Operator} {rt : Value} {fo ro : Option Value} {Q : Value → Shared → Prop} (Fm : Fr hb0 lv st.heap mm) (K0 : K.In hb0) (J : InstAt st.heap ix oi ca oe) (hty : Looks (model prog w) st.heap (typeOf rt) (.type T)) (own : selfFirst K ca = true)
    (hm : findIn K (.ref ca) (PySem.dunder op.info.2) = some (some (.ref fa))) (hfn : isFn K (.ref fa) = true) (hnr : findIn K (.ref ca) (dunderR op.info.2) = some none)
    (hl : findIn K (.type T) (PySem.dunder op.info.2) = some fo) (hr : findIn K (.type T) (dunderR op.info.2) = some ro) (hsub : subIn K (.type T) (.ref ca) = some false)
    (go : wpAny (model prog w) A (call (.ref fa) [.ref ix, rt]) (PySem.W.CmpBack Q) E st) : wpAny (model prog w) A (binaryOp op (.ref ix) rt) Q E st := by
  have KI := K0.keeps Fm.keep
  obtain ⟨cdd, more, hcdd, hmro⟩ := ksp_first own
  rcases hinf : op.info with ⟨sg, nn⟩
  rw [hinf] at hm hnr hl hr
  dsimp only at hm hnr hl hr
  have first := ksp_try KI J hm hfn go
  have b1 : Looks (model prog w) st.heap (typeOf (.ref ix)) (.ref ca) := J.type
  have b3 : Looks (model prog w) st.heap (fillsNumberSlot (.ref ca) nn) true := fills_K KI hcdd hmro hm
  have b4 : Looks (model prog w) st.heap (fillsNumberSlot (.type T) nn) ((fo.isSome && !isSeqSlot fo) || (ro.isSome && !isSeqSlot ro)) := ksp_fillsT KI hl hr
  have b5 : Looks (model prog w) st.heap (isSubtype (.type T) (.ref ca)) false := looks_subIn KI hsub
  have b6 : Looks (model prog w) st.heap (numberSlotInPython (.ref ca) nn) true := ksp_inPy KI hm hnr (.inl rfl)
  have b7 : Looks (model prog w) st.heap (numberSlotInPython (.type T) nn) false := Looks.of_pure rfl
  have b8 : Looks (model prog w) st.heap (typeLookup (.type T) (dunderR nn)) ro := looks_findIn KI hr
  generalize ((fo.isSome && !isSeqSlot fo) || (ro.isSome && !isSeqSlot ro)) = onR at b4
  have neq : (Value.ref ca == Value.type T) = false := Bool.eq_false_iff.mpr fun q => by cases beq_iff_eq.mp q
  obtain ⟨h1, g1, d1, t1, o1⟩ := st
  simp only [binaryOp, hinf]
  refine wpAny_holding (wpAny_bind ?_)
  unfold binaryOp1
  refine wpAny_bind (b1.at (wpAny_bind (hty.at (wpAny_bind (b3.at ?_)))))
  simp only [neq, Bool.false_eq_true, if_false]
  cases onR <;>
  · ksp_lk
    refine wpAny_mono first (fun r s' back => ?_) fun _ _ z => z
    obtain ⟨v, rfl, done⟩ := back
    ksp_lk
    exact done
end
section
variable {X : Cx} {c : Cn} {m ma mb : ME} {a b e o : Expr} {es : List Expr} {mr : MA} {p pos : Pos} {k : Nat} {f C : Addr} {u : Spec} {cn : Str}
theorem me_binO {op : Operator} (O : OpF X cn (PySem.dunder op.info.2) C f u k) (B : BinF X.K C op.info.2) (oc : OwnC X.K C) (hc : CallOk X c k) (ha : PE X a (tE c ma)) (hb : PE X b (tE c mb)) : PE X (.BinOp a op b pos) (tE c (mBinO cn u ma mb)) :=
  ⟨fun pins s σ H Q I h => wpAny_BinOp (bin_run ha hb hc O.mg oc O.F I h fun s1 x od w H1 I1 J R z => by
    obtain ⟨mm, fr⟩ := I1.fr
    have z2 := wpAny_mono z (fun v s' h => back_of h) fun _ _ h => h
    cases R with
    | same L => exact PySem.W.binop_K fr I1.ok.mod.kin J L B.sf O.at_ O.fn z2
    | blt T hT L =>
      obtain ⟨h1, h2, h3⟩ := B.bt T hT
      obtain ⟨fo, e1⟩ := Option.isSome_iff_exists.mp h1
      obtain ⟨ro, e2⟩ := Option.isSome_iff_exists.mp h2
      exact bin_blt fr I1.ok.mod.kin J L B.sf O.at_ O.fn B.rv e1 e2 h3 z2)⟩
/-! a(b) -/
def mCallO (cn : Str) (u : Spec) (o : ME) (m : MA) : ME := fun sd S q x => o sd S (fun d S1 => isIns cn d S1 fun _ => m sd S1 (fun ds S2 => isIns cn d S2 fun _ => u (d :: ds) S2 q x) x) x
theorem callWith_inst {M : Model} {A : Around} {E : Value → Shared → Prop} {st : Shared} {x : Addr} {Q : Value → Shared → Prop} {first : List Value} {pos : Pos} {args : List (Bool × Sem Value)} {keywords : List (Option Str × Sem Value)} (np : (args.any (·.1) || keywords.any (·.1.isNone)) = false)
    (h : wpAny M A (evalArgs (.ref x) true args keywords) (fun z s₁ => (∃ C dx od, PySem.W.InstAt s₁.heap x (PySem.W.instObj C dx) C od) ∧ wpAny M A (call (.ref x) (first ++ z.pos) z.kw) Q E s₁) E st) : wpAny M A (callWith pos (.ref x) first args keywords) Q E st := by
  unfold callWith
  refine wpAny_bind (wpAny_holding (wpAny_mono h (fun z s₁ hz => wpAny_bind (wpAny_standAt ?_)) fun _ _ y => y))
  obtain ⟨⟨C, dx, od, J⟩, hz⟩ := hz
  have kp := PySem.W.kco_keeper (M := M) J rfl
  simp only [np]
  refine wpAny_bind (kp.here ?_)
  have tail : ∀ {t : Sem Value}, wpAny M A t Q E s₁ → wpAny M A (t >>= fun r => holding [r] point >>= fun _ => pure r) Q E s₁ := fun ht =>
    wpAny_bind (wpAny_mono ht (fun r s₂ hr => wpAny_bind (wpAny_holding (wpAny_point (wpAny_pure hr)))) fun _ _ y => y)
  exact tail (wpAny_operateT hz)
/-- the callee as code -/
theorem fn_code (F : Fn X k f u []) (hc : CallOk X c k) {pins : List (Addr × Obj)} {σ : L2.St} {H : Hp} {s : Shared} {Q : VK} {us : List Value} {vs : List V} {r : List Addr} {S : Sto} {dl : List D} {q : QD} {xx : QX} (I : Inv X pins σ H s) (rv : Vals vs us)
    (sm : c.Sm r H S) (rd : c.Rs r H dl vs) (h : u dl S q xx) (g : GoV c r H q Q) (gx : GoX c r H σ xx) :
    codeAny (model X.prog X.w) X.A (.call (.ref f) ⟨us, []⟩) (fun rs s' => match rs with | .ok (.ret v) => EP X pins σ Q v s' | .ok _ => False | .error e => X.xe e s') s := by
  obtain ⟨fd, ps, dvs, ds, FF, hb, hd, hdd⟩ := F.ex
  have h' : u (dl ++ []) S q xx := by rw [List.append_nil]; exact h
  have sp := call_of hc.K hc.mg hdd sm rd h' g gx
  have r2 : Vals (vs ++ dvs) (us ++ ds) := rv.append hd
  have hl : (us ++ ds).length = ps.length := r2.length.symm.trans (FF.len _ _ _ _ sp)
  refine codeAny_mono (FF.run X.A X.stack s H ⟨us, []⟩ _ _ Q (WE c.W σ) hc.room hc.gd I.env0 (hb s us I.kIn hl) r2 sp) fun rs s' hq => ?_
  cases rs with
  | error e => exact passAt hc.tk σ pins H s e s' I hq
  | ok fl =>
    cases fl with
    | ret u => exact I.after hq
    | next => exact hq.elim
    | brk => exact hq.elim
    | cont => exact hq.elim
theorem me_callO {x : Str} (O : OpF X cn "__call__" C f u k) (hc : CallOk X c k) (ho : PE X (.Name x p) (tE c m)) (ha : PA X (e :: es) (tA c mr))
    (he : starEach (e :: es) X.env = (false, eval e X.env) :: starEach es X.env := by rfl) (hpl : (backTo pos (starEach es X.env)).any (·.1) = false := by rfl) :
    PE X (.Call (.Name x p) (e :: es) [] pos) (tE c (mCallO cn u m mr)) := by
  refine ⟨fun pins s σ H Q I h => wpAny_Call_Name_kw ?_⟩
  obtain ⟨r, S, sd, q, xx, aa, hm, g, gx⟩ := h
  refine thn (ho.run pins s σ H (fun v H1 => ∃ r1 S1 d, At c r1 S1 sd σ H1 ∧ c.Rd r1 H1 d v ∧ Stp r H r1 H1 ∧ (∃ i, d = .ref i ∧ ∃ x', v = V.ref x') ∧ mr sd S1 (fun ds S2 => isIns cn d S2 fun _ => u (d :: ds) S2 q xx) xx) I ⟨r, S, sd, _, xx, aa, hm, fun d S1 r1 v H1 h1 t1 sm1 rd1 => ?_, gx⟩) fun v s1 ⟨vx, H1, I1, rx, r1, S1, d, a1, rd1, t1, ⟨i, ed, x', ev⟩, h1⟩ => ?_
  · obtain ⟨i, fs, x', dx, vs, rfl, rfl, _, _, _, _, _, hu⟩ := isIns_of (C := C) h1 sm1 rd1 (by rw [hc.mg]; exact O.mg)
    exact ⟨r1, S1, _, aa.step t1 sm1, rd1, t1, ⟨i, rfl, x', rfl⟩, hu⟩
  · subst ed ev
    obtain rfl : v = Value.ref x' := rx
    rw [he]
    refine callWith_inst (by show ((false || (backTo pos (starEach es X.env)).any (·.1)) || false) = false; rw [hpl]; rfl) (PySem.Calls.evalArgs_plain ?_)
    have hq := ha.run pos pins s1 σ H1 (fun ws H2 => ∃ r2 S2 ds, c.Sm r2 H2 S2 ∧ c.Rs r2 H2 ds ws ∧ Stp r1 H1 r2 H2 ∧ isIns cn (.ref i) S2 fun _ => u (.ref i :: ds) S2 q xx) I1 ⟨r1, S1, sd, _, xx, a1, h1, fun ds S2 r2 ws H2 h2 t2 sm2 rd2 => ⟨r2, S2, ds, sm2, rd2, t2, h2⟩, gx.step t1⟩
    rw [he] at hq
    refine thn hq fun us s2 ⟨ws, H2, I2, rr, r2, S2, ds, sm2, rd2, t2, h2⟩ => ?_
    obtain ⟨i', fs, y, dx, vs, ei, ey, er, _, e1, _, _, hu⟩ := isIns_of (C := C) h2 sm2 (rd1.mono t2) (by rw [hc.mg]; exact O.mg)
    cases ei; cases ey
    obtain ⟨od, J⟩ := inst_of I2 e1
    have t12 := t1.trans t2
    refine ⟨⟨_, _, _, J⟩, wpAny_call (PySem.W.kco_code I2.kIn J rfl O.at_ O.fn O.fi ?_)⟩
    exact fn_code (us := .ref x' :: us) (vs := .ref x' :: ws) (dl := .ref i :: ds) O.F hc I2 (.cons rfl rr) sm2 (.cons (rd1.mono t2) rd2) hu (g.step t12) (gx.step t12)
end
end Lw

namespace Lw
open PySem PySem.Spec PyProof.Rows L2
open He (ga ma eqO eqO_ok ba Fa Dv refsD frG frG_at frG_in keysIn dicW dflB dflB_ok kwdB kwdB_ok FnW)

/-! ### what the head looks at -/
/-- no list that may be the script -/
def keepO : Obj → Bool
  | ⟨.type c, _, _, _⟩ => !(c == "list")
  | _ => true
def memA (a : Addr) : List Addr → Bool
  | [] => false
  | b :: r => match Nat.beq a b with
    | true => true
    | false => memA a r
def pickA (seen : List Addr) : List Addr → List Addr → List Addr
  | [], acc => acc
  | a :: r, acc => match memA a acc with
    | true => pickA seen r acc
    | false => match memA a seen with
      | true => pickA seen r acc
      | false => pickA seen r (a :: acc)
def bfs (g : Addr → Option Obj) : Nat → List Addr → List Addr → List Addr
  | 0, _, seen => seen
  | n + 1, fr, seen =>
    let nx := pickA seen (fr.flatMap fun a => match g a with
      | some o => refsD o
      | none => []) []
    bfs g n nx (nx ++ seen)
def asL (g : Addr → Option Obj) (n : Nat) : List Addr := bfs g n [mainGlobals, PySem.cStatics] [mainGlobals, PySem.cStatics]
def frL (g : Addr → Option Obj) (n : Nat) : PySem.W.Frag := (frG g (asL g n)).filter fun q => keepO q.2
theorem lookup_filter {p : Addr × Obj → Bool} {a : Addr} {o : Obj} : ∀ {l : List (Addr × Obj)}, (l.filter p).lookup a = some o → (a, o) ∈ l ∧ p (a, o) = true
  | [], h => by cases h
  | (b, u) :: r, h => by
    rw [List.filter_cons] at h
    by_cases hp : p (b, u) = true
    · rw [if_pos hp, List.lookup_cons] at h
      by_cases q : (a == b) = true
      · rw [q] at h
        cases beq_iff_eq.mp q
        cases h
        exact ⟨List.mem_cons_self, hp⟩
      · have q' : (a == b) = false := by simpa using q
        rw [q'] at h
        obtain ⟨h1, h2⟩ := lookup_filter h
        exact ⟨List.mem_cons_of_mem _ h1, h2⟩
    · rw [if_neg hp] at h
      obtain ⟨h1, h2⟩ := lookup_filter h
      exact ⟨List.mem_cons_of_mem _ h1, h2⟩
theorem frG_mem' {g : Addr → Option Obj} {as : List Addr} {a : Addr} {o : Obj} (h : (a, o) ∈ frG g as) : g a = some o := by
  unfold He.frG at h
  obtain ⟨b, _, e⟩ := List.mem_filterMap.mp h
  cases hb : g b with
  | none => rw [hb] at e; cases e
  | some u =>
    rw [hb] at e
    cases e
    exact hb
theorem frL_in {h : Heap} {n : Nat} : (frL h.get? n).In h := fun _ _ e => frG_mem' (lookup_filter e).1
theorem frL_keep {g : Addr → Option Obj} {n : Nat} {a : Addr} {o : Obj} (e : (frL g n).lookup a = some o) : keepO o = true := (lookup_filter e).2
/-! ### defs, by any address -/
structure Df where
  at_ : PySem.W.Frag → Addr
  name : Str
  qual : Str
  params : Arguments
  body : List Stmt
  scope : Scope
  dfl : List Dv := []
def gA (x : Str) : PySem.W.Frag → Addr := fun K => ga K x
def mA (c m : Str) : PySem.W.Frag → Addr := fun K => ma K (ga K c) m
def recA (T : String) (c m : Str) : PySem.W.Frag → Addr := fun K => match PySem.W.recIn K (ma K (ga K c) m) T with
  | some (.ref g :: _) => g
  | _ => 0
def pA (c m : Str) : PySem.W.Frag → Addr := recA "property" c m
def cA (c m : Str) : PySem.W.Frag → Addr := recA "classmethod" c m
def fnAt (K : PySem.W.Frag) (a : Addr) : FnW := match K.lookup a with
  | some ⟨_, _, .func fd, _⟩ => some (fd.name, fd.qualname, fd.params, fd.body, fd.scope, fd.globals, fd.closure, fd.builtins)
  | _ => none
def Df.val (d : Df) : FnW := some (d.name, d.qual, d.params, .stmts d.body, d.scope, mainGlobals, [], builtinsNs)
def Df.dvs (K : PySem.W.Frag) (d : Df) : List V := d.dfl.map (Dv.v K)
def Df.ok (K : PySem.W.Frag) (d : Df) : Bool := PySem.W.keepIn K (.ref (d.at_ K)) && (match K.lookup (d.at_ K) with
  | some ⟨_, _, .func fd, _⟩ => PySem.W.codeIn K fd.code d.qual && (dflB K fd.defaults (d.dvs K) && kwdB K fd.kwdefaults [])
  | _ => false)
theorem Df.funD {K : PySem.W.Frag} {d : Df} (e : fnAt K (d.at_ K) = d.val) (c : d.ok K = true) : ∃ fd, FunD K d.name d.qual d.params d.body d.scope (d.dvs K) [] (d.at_ K) fd := by
  obtain ⟨kp, c2⟩ := ba c
  unfold fnAt at e
  cases q : K.lookup (d.at_ K) with
  | none => rw [q] at c2; cases c2
  | some o =>
    obtain ⟨x1, x2, dt, x3⟩ := o
    rw [q] at c2 e
    cases dt with
    | func fd =>
      obtain ⟨y1, y2, y3, y4, y5, y6, y7, y8, y9, y10, y11, y12, y13, y14, y15⟩ := fd
      have e2 : (some (y1, y2, y3, y4, y5, y6, y7, y15) : FnW) = some (d.name, d.qual, d.params, .stmts d.body, d.scope, mainGlobals, [], builtinsNs) := e
      simp only [Option.some.injEq, Prod.mk.injEq] at e2
      obtain ⟨z1, z2, z3, z4, z5, z6, z7, z8⟩ := e2
      subst z1 z2 z3 z4 z5 z6 z7 z8
      obtain ⟨k1, k2⟩ := ba (show (PySem.W.codeIn K y13 d.qual && (dflB K y8 (d.dvs K) && kwdB K y9 [])) = true from c2)
      obtain ⟨k3, k4⟩ := ba k2
      exact ⟨_, ⟨x1, x2, y8, y9, y10, y11, y12, y13, y14, x3, rfl, q, k1, dflB_ok k3, kwdB_ok k4⟩, kp⟩
    | _ => cases c2
/-! ### the Hook -/
abbrev Xf := PySem.W.Frag → Bool
abbrev Tb := (PySem.W.Frag → Addr) × List Str
abbrev AlL : Type := Bool × List FnW × List (Option (List (Option (Str × Int))))
def obsL (fa : List Fa) (fn : List Df) (ts : List Tb) (xs : List Xf) (K : PySem.W.Frag) : AlL := ((fa.all fun f => f.ok K) && ((fn.all fun d => d.ok K) && xs.all fun x => x K), fn.map fun d => fnAt K (d.at_ K), ts.map fun t => dicW K (t.1 K))
def valL (fn : List Df) (ts : List Tb) (w : World) : AlL := (true, fn.map Df.val, ts.map fun t => some (keysIn w.params t.2))
def obsLG (n : Nat) (fa : List Fa) (fn : List Df) (ts : List Tb) (xs : List Xf) (g : Addr → Option Obj) : AlL := obsL fa fn ts xs (frL g n)
def SaysL (fa : List Fa) (fn : List Df) (ts : List Tb) (xs : List Xf) (w : World) (K : PySem.W.Frag) : Prop := obsL fa fn ts xs K = valL fn ts w
def hookL (n : Nat) (fa : List Fa) (fn : List Df) (ts : List Tb) (xs : List Xf) : PySem.W.Hook where
  α := AlL
  obs := fun s => obsLG n fa fn ts xs s.heap.get?
  val := fun w => valL fn ts w
  says := fun w h => ∃ K : PySem.W.Frag, K.In h ∧ SaysL fa fn ts xs w K ∧ ∀ a o, K.lookup a = some o → keepO o = true
  of := fun _ _ e => ⟨_, frL_in, e, fun _ _ e => frL_keep e⟩
  keeps := fun _ _ _ ⟨K, hK, c⟩ k => ⟨K, PySem.W.Frag.In.keeps hK k, c⟩
theorem obsLG_eq {n : Nat} {fa : List Fa} {fn : List Df} {ts : List Tb} {xs : List Xf} {g : Addr → Option Obj} {s : Shared} (h : ∀ a, g a = s.heap.get? a) : obsLG n fa fn ts xs g = (hookL n fa fn ts xs).obs s := by
  have e : g = s.heap.get? := funext h
  rw [e] <;> rfl
/-! ### what a law's texts lean on -/
structure Ctx (fa : List Fa) (fn : List Df) (ts : List Tb) (xs : List Xf) (w : World) (K : PySem.W.Frag) (mg : Mg) : Prop where
  h : ∃ h, K.In h ∧ h.Ns mainGlobals mg
  says : SaysL fa fn ts xs w K
section
variable {fa : List Fa} {fn : List Df} {ts : List Tb} {xs : List Xf} {w : World} {K : PySem.W.Frag} {mg : Mg}
theorem Ctx.one (c : Ctx fa fn ts xs w K mg) : ((fa.all fun f => f.ok K) && ((fn.all fun d => d.ok K) && xs.all fun x => x K)) = true := congrArg (fun z : AlL => z.1) c.says
theorem Ctx.fact (c : Ctx fa fn ts xs w K mg) (i : Nat) {f : Fa} (h : fa[i]? = some f := by rfl) : f.ok K = true :=
  List.all_eq_true.mp (ba c.one).1 f (List.mem_of_getElem? h)
theorem Ctx.x (c : Ctx fa fn ts xs w K mg) (i : Nat) {x : Xf} (h : xs[i]? = some x := by rfl) : x K = true :=
  List.all_eq_true.mp (ba (ba c.one).2).2 x (List.mem_of_getElem? h)
theorem Ctx.glo (c : Ctx fa fn ts xs w K mg) (i : Nat) {x : Str} (h : fa[i]? = some (.glo x) := by rfl) : mg x = some (.ref (ga K x)) :=
  let ⟨_, h1, h2⟩ := c.h
  He.glo_ok h1 h2 (c.fact i h)
theorem Ctx.free (c : Ctx fa fn ts xs w K mg) (i : Nat) {x : Str} (h : fa[i]? = some (.free x) := by rfl) : mg x = none :=
  let ⟨_, h1, h2⟩ := c.h
  He.free_ok h1 h2 (c.fact i h)
theorem Ctx.def_ (c : Ctx fa fn ts xs w K mg) (i : Nat) {d : Df} (h : fn[i]? = some d := by rfl) : ∃ fd, FunD K d.name d.qual d.params d.body d.scope (d.dvs K) [] (d.at_ K) fd := by
  have c2 := List.all_eq_true.mp (ba (ba c.one).2).1 d (List.mem_of_getElem? h)
  have e : fn.map (fun d => fnAt K (d.at_ K)) = fn.map Df.val := congrArg (fun z : AlL => z.2.1) c.says
  have e2 : (fn.map fun d => fnAt K (d.at_ K))[i]? = (fn.map Df.val)[i]? := by rw [e]
  rw [List.getElem?_map, List.getElem?_map, h] at e2
  exact Df.funD (Option.some.inj e2) c2
theorem Ctx.tab (c : Ctx fa fn ts xs w K mg) (i : Nat) {t : Tb} (h : ts[i]? = some t := by rfl) : dicW K (t.1 K) = some (keysIn w.params t.2) := by
  have e : ts.map (fun t => dicW K (t.1 K)) = ts.map fun t => some (keysIn w.params t.2) := congrArg (fun z : AlL => z.2.2) c.says
  have e2 : (ts.map fun t => dicW K (t.1 K))[i]? = (ts.map fun t => some (keysIn w.params t.2))[i]? := by rw [e]
  rw [List.getElem?_map, List.getElem?_map, h] at e2
  exact Option.some.inj e2
end
/-! ### further facts -/
def xOwn (x : Str) : Xf := fun K => (Fa.cls x).ok K && (eqO (PySem.W.findIn K (.ref (ga K x)) "__class__") (some (some (.builtin "object.__class__"))) && (eqO (PySem.W.specialIn K (.builtin "object.__class__") "__get__") (some (some (.builtin "getset_descriptor.__get__"))) &&
  (decide (PySem.W.takesIn K (.builtin "object.__class__") = some true) && decide (PySem.W.mroIn K (ga K x) (.type "object") = some true))))
theorem xOwn_ok {K : PySem.W.Frag} {x : Str} (h : xOwn x K = true) : OwnC K (ga K x) := by
  obtain ⟨h1, h⟩ := ba h
  obtain ⟨h2, h⟩ := ba h
  obtain ⟨h3, h⟩ := ba h
  obtain ⟨h4, h5⟩ := ba h
  exact ⟨He.cls_ok h1, eqO_ok h2, eqO_ok h3, of_decide_eq_true h4, of_decide_eq_true h5⟩
def xOp (x m : Str) : Xf := fun K => eqO (PySem.W.findIn K (.ref (ga K x)) m) (some (some (.ref (ma K (ga K x) m)))) && (PySem.W.isFn K (.ref (ma K (ga K x) m)) && PySem.W.fnIn K (ma K (ga K x) m))
theorem xOp_ok {X : Cx} {x m : Str} {k : Nat} {u : Spec} (h : xOp x m X.K = true) (hg : X.mg x = some (.ref (ga X.K x))) (F : Fn X k (ma X.K (ga X.K x) m) u []) : OpF X x m (ga X.K x) (ma X.K (ga X.K x) m) u k := by
  obtain ⟨h1, h⟩ := ba h
  obtain ⟨h2, h3⟩ := ba h
  exact ⟨hg, eqO_ok h1, h2, h3, F⟩
def xBin (x : Str) (nm : String) : Xf := fun K => PySem.W.selfFirst K (ga K x) && (eqO (PySem.W.findIn K (.ref (ga K x)) (dunderR nm)) (some none) && kinds.all fun T =>
  (PySem.W.findIn K (.type T) (PySem.dunder nm)).isSome && ((PySem.W.findIn K (.type T) (dunderR nm)).isSome && decide (PySem.W.subIn K (.type T) (.ref (ga K x)) = some false)))
theorem xBin_ok {K : PySem.W.Frag} {x : Str} {nm : String} (h : xBin x nm K = true) : BinF K (ga K x) nm := by
  obtain ⟨h1, h⟩ := ba h
  obtain ⟨h2, h3⟩ := ba h
  refine ⟨h1, eqO_ok h2, fun T hT => ?_⟩
  obtain ⟨h4, h5⟩ := ba (List.all_eq_true.mp h3 T hT)
  obtain ⟨h5, h6⟩ := ba h5
  exact ⟨h4, h5, of_decide_eq_true h6⟩
/-- isinstance with a built-in type on the right: the own classes are none -/
def xIsB (cs : List Str) (T : String) : Xf := fun K => cs.all fun k => decide (PySem.W.kitOne K (.ref (ga K k)) (.type T) = some false)
def xIsO (cs : List Str) (y : Str) : Xf := fun K => (kinds.all fun s => decide (PySem.W.kitOne K (.type s) (.ref (ga K y)) = some false)) && cs.all fun k => decide (PySem.W.kitOne K (.ref (ga K k)) (.ref (ga K y)) = some (k == y))
theorem xIsB_ok {K : PySem.W.Frag} {mg : Mg} {cs : List Str} {T : String} (h : xIsB cs T K = true) (hg : ∀ k ∈ cs, mg k = some (.ref (ga K k))) : ∀ k ∈ cs, ∀ C, mg k = some (.ref C) → PySem.W.kitOne K (.ref C) (.type T) = some false := fun k hk C hC => by
  rw [hg k hk] at hC; cases hC
  exact of_decide_eq_true (List.all_eq_true.mp h k hk)
theorem xIsO_ok {K : PySem.W.Frag} {mg : Mg} {cs : List Str} {y : Str} (h : xIsO cs y K = true) (hg : ∀ k ∈ cs, mg k = some (.ref (ga K k))) : (∀ s ∈ kinds, PySem.W.kitOne K (.type s) (.ref (ga K y)) = some false) ∧
    ∀ k ∈ cs, ∀ C, mg k = some (.ref C) → PySem.W.kitOne K (.ref C) (.ref (ga K y)) = some (k == y) := by
  obtain ⟨h1, h2⟩ := ba h
  exact ⟨fun s hs => of_decide_eq_true (List.all_eq_true.mp h1 s hs), fun k hk C hC => by
    rw [hg k hk] at hC; cases hC
    exact of_decide_eq_true (List.all_eq_true.mp h2 k hk)⟩
/-! exception classes -/
def refsB (T : List Value) : List Value → Bool
  | [] => T.isEmpty
  | .ref a :: r => refsB T r
  | l => decide (l = T)
theorem refsB_ok {T : List Value} : ∀ {l : List Value}, refsB T l = true → RefsT T l
  | [], h => by
    have e : T = [] := List.isEmpty_iff.mp h
    rw [e]; exact .tail
  | .ref a :: r, h => .cons (refsB_ok h)
  | .none :: r, h => by cases (of_decide_eq_true h : _ = T); exact .tail
  | .ellipsis :: r, h => by cases (of_decide_eq_true h : _ = T); exact .tail
  | .notImplemented :: r, h => by cases (of_decide_eq_true h : _ = T); exact .tail
  | .bool _ :: r, h => by cases (of_decide_eq_true h : _ = T); exact .tail
  | .int _ _ :: r, h => by cases (of_decide_eq_true h : _ = T); exact .tail
  | .float _ _ :: r, h => by cases (of_decide_eq_true h : _ = T); exact .tail
  | .str _ _ :: r, h => by cases (of_decide_eq_true h : _ = T); exact .tail
  | .bytes _ _ :: r, h => by cases (of_decide_eq_true h : _ = T); exact .tail
  | .type _ :: r, h => by cases (of_decide_eq_true h : _ = T); exact .tail
  | .builtin _ :: r, h => by cases (of_decide_eq_true h : _ = T); exact .tail
def excO (K : PySem.W.Frag) (C : Addr) (T : List Value) (nw : String) : Bool := match K.lookup C with
  | some ⟨.type "type", _, .cls cd, sl⟩ => (match cd.mro, sl.toList with
    | .ref C' :: bm, [_, _, _, _, some (.builtin n), _] => C' == C && (n == nw && (!cd.hasDel && (cd.hasDict && refsB T bm)))
    | _, _ => false)
  | _ => false
theorem excO_ok {K : PySem.W.Frag} {C : Addr} {T : List Value} {nw : String} (h : excO K C T nw = true) : ∃ nm q N bs bm sn sub ab col dd k0 k1 k2 k3 k5, K.lookup C = some (excClassObj nm q C N bs bm true sn sub ab col dd k0 k1 k2 k3 k5 nw) ∧ RefsT T bm := by
  unfold excO at h
  split at h
  · rename_i dd cd sl ho
    split at h
    · rename_i C' bm k0 k1 k2 k3 n k5 em es
      obtain ⟨z1, h⟩ := ba h
      obtain ⟨z2, h⟩ := ba h
      obtain ⟨z3, h⟩ := ba h
      obtain ⟨z4, z5⟩ := ba h
      cases beq_iff_eq.mp z1
      cases beq_iff_eq.mp z2
      obtain ⟨nm, bs, mro, ns, qn, hd, sn, sub, ab, col, del⟩ := cd
      dsimp only at em z3 z4 z5
      subst em z4
      have z3' : del = false := by simpa using z3
      subst z3'
      obtain ⟨l⟩ := sl
      dsimp only at es
      subst es
      exact ⟨nm, qn, ns, bs, bm, sn, sub, ab, col, dd, k0, k1, k2, k3, k5, ho, refsB_ok z5⟩
    · cases h
  · cases h
/-- an own exception class over B -/
def xExc (x : Str) (nw : String) (T : List Value) : Xf := fun K => excO K (ga K x) T nw && (eqO (PySem.W.findIn K (.ref (ga K x)) "__setattr__") (some (some (.builtin "object.__setattr__"))) && (decide (PySem.W.subIn K (.ref (ga K x)) (.type "BaseException") = some true) &&
  (decide (PySem.W.typeIn K (.ref (ga K x)) = some (.type "type")) && PySem.W.keepIn K (.ref (ga K x)))))
theorem xExc_ok {K : PySem.W.Frag} {x : Str} {B nw ini : String} {T : List Value} (E : EBase B nw ini T) (h : xExc x nw T K = true) : ExC K B nw ini T (ga K x) := by
  obtain ⟨h1, h⟩ := ba h
  obtain ⟨h2, h⟩ := ba h
  obtain ⟨h3, h⟩ := ba h
  obtain ⟨h4, h5⟩ := ba h
  exact ⟨E, excO_ok h1, eqO_ok h2, of_decide_eq_true h3, of_decide_eq_true h4, h5⟩
/-- .. with an __init__ of its own -/
def xIni (x : Str) : Xf := fun K => eqO (PySem.W.findIn K (.ref (ga K x)) "__init__") (some (some (.ref (ma K (ga K x) "__init__")))) && decide (PySem.W.typeIn K (.ref (ma K (ga K x) "__init__")) = some (.type "function"))
theorem xIni_ok {K : PySem.W.Frag} {x : Str} (h : xIni x K = true) : PySem.W.findIn K (.ref (ga K x)) "__init__" = some (some (.ref (ma K (ga K x) "__init__"))) ∧ PySem.W.typeIn K (.ref (ma K (ga K x) "__init__")) = some (.type "function") := by
  obtain ⟨h1, h2⟩ := ba h
  exact ⟨eqO_ok h1, of_decide_eq_true h2⟩
def xNo (x f : Str) : Xf := fun K => eqO (PySem.W.findIn K (.ref (ga K x)) f) (some none)
theorem xNo_ok {K : PySem.W.Frag} {x f : Str} (h : xNo x f K = true) : PySem.W.findIn K (.ref (ga K x)) f = some none := eqO_ok h
/-- the base's name, an own class -/
def cfB (K : PySem.W.Frag) (D : Value) (ini : String) : Bool := match PySem.W.findCls K D (.type "type") "__init__" with
  | some (.val (.builtin n)) => n == ini
  | _ => false
theorem cfB_ok {K : PySem.W.Frag} {D : Value} {ini : String} (h : cfB K D ini = true) : PySem.W.findCls K D (.type "type") "__init__" = some (.val (.builtin ini)) := by
  unfold cfB at h
  split at h
  · rename_i n e
    rw [e, beq_iff_eq.mp h]
  · cases h
def xBaseO (bn : Str) (ini : String) : Xf := fun K => PySem.W.readsIn K (ga K bn) (.type "type") && (eqO (PySem.W.specialIn K (.ref (ga K bn)) "__getattribute__") (some (some (.builtin "type.__getattribute__"))) && cfB K (.ref (ga K bn)) ini)
theorem xBaseO_ok {K : PySem.W.Frag} {mg : Mg} {bn : Str} {ini : String} (h : xBaseO bn ini K = true) (hg : mg bn = some (.ref (ga K bn))) (hd : PySem.W.handedIn (.builtin ini) = true := by rfl) : BaseIni K mg bn ini := by
  obtain ⟨h1, h⟩ := ba h
  obtain ⟨h2, h3⟩ := ba h
  exact ⟨.inl ⟨_, hg, h1, eqO_ok h2, cfB_ok h3⟩, hd⟩
def xBaseB (B ini : String) : Xf := fun K => cfB K (.type B) ini
theorem xBaseB_ok {K : PySem.W.Frag} {mg : Mg} {bn : Str} {B ini : String} (h : xBaseB B ini K = true) (hm : mg bn = none) (hv : bootBuiltins bn = some (.type B)) (ht : typeOf (.type B) = pure (.type "type")) (hs : Manifest.isStub B = false) (hn : bn ≠ "__name__" := by decide) (hd : PySem.W.handedIn (.builtin ini) = true := by rfl) : BaseIni K mg bn ini :=
  ⟨.inr ⟨B, hm, hv, hn, ht, hs, cfB_ok h⟩, hd⟩
/-! properties, classmethods -/
def xProp (c f : Str) : Xf := fun K => eqO (PySem.W.findIn K (.ref (ga K c)) f) (some (some (.ref (mA c f K)))) && (eqO (PySem.W.specialIn K (.ref (mA c f K)) "__get__") (some (some (.builtin "property.__get__"))) && (decide (PySem.W.takesIn K (.ref (mA c f K)) = some true) && (match PySem.W.recIn K (mA c f K) "property" with
  | some (.ref _ :: _) => true
  | _ => false)))
theorem xProp_ok {K : PySem.W.Frag} {c f : Str} (h : xProp c f K = true) : PropOf K (ga K c) f (mA c f K) (pA c f K) := by
  obtain ⟨h1, h⟩ := ba h
  obtain ⟨h2, h⟩ := ba h
  obtain ⟨h3, h4⟩ := ba h
  refine ⟨eqO_ok h1, eqO_ok h2, of_decide_eq_true h3, ?_⟩
  split at h4
  · rename_i g r e
    refine ⟨r, ?_⟩
    have e' : pA c f K = g := by
      unfold pA recA
      have e2 : PySem.W.recIn K (ma K (ga K c) f) "property" = some (.ref g :: r) := e
      rw [e2]
    rw [e', e]
  · cases h4
/-! ### written data -/
def dvB (K : PySem.W.Frag) : Nat → D → Value → Bool
  | 0, _, _ => false
  | n + 1, d, u => match d, u with
    | .non, .none => true
    | .bl a, .bool b => a == b
    | .int i, .int j _ => decide (i = j)
    | .str x, .str y _ => decide (x = y)
    | .tup ds, .ref a => (match K.lookup a with
      | some ⟨.type c, _, .seq its _, _⟩ => c == "tuple" && (decide (its.size ≤ sizeLine) && dvAll (dvB K n) ds its.toList)
      | _ => false)
    | _, _ => false
where dvAll (f : D → Value → Bool) : List D → List Value → Bool
  | [], [] => true
  | d :: ds, u :: us => f d u && dvAll f ds us
  | _, _ => false
mutual
theorem dvB_ok {K : PySem.W.Frag} {mg : Mg} : ∀ (n : Nat) (d : D) (u : Value), dvB K n d u = true → ∃ v, RelV v u ∧ ∀ r H, RelD K mg r H d v
  | 0, _, _, h => by unfold dvB at h; cases h
  | n + 1, d, u, h => by
    unfold dvB at h
    split at h
    · exact ⟨.non, rfl, fun _ _ => .non⟩
    · cases beq_iff_eq.mp h; exact ⟨.bl _, rfl, fun _ _ => .bl _⟩
    · cases of_decide_eq_true h; exact ⟨.int _, ⟨_, rfl⟩, fun _ _ => .int _⟩
    · cases of_decide_eq_true h; exact ⟨.str _, ⟨_, rfl⟩, fun _ _ => .str _⟩
    · rename_i ds a
      split at h
      · rename_i c dd its m sl e
        obtain ⟨h1, h⟩ := ba h
        obtain ⟨h2, h3⟩ := ba h
        obtain ⟨vs, h4, h5⟩ := dvAll_ok n ds its.toList h3
        refine ⟨.ref a, rfl, fun r H => .tup (.inr ⟨_, its, m, e, ?_, rfl, of_decide_eq_true h2, h4⟩) (h5 r H)⟩
        exact congrArg Value.type (beq_iff_eq.mp h1)
      · cases h
    · cases h
theorem dvAll_ok {K : PySem.W.Frag} {mg : Mg} : ∀ (n : Nat) (ds : List D) (us : List Value), dvB.dvAll (dvB K n) ds us = true → ∃ vs, Vals vs us ∧ ∀ r H, RelDs K mg r H ds vs
  | _, [], [], _ => ⟨[], .nil, fun _ _ => .nil⟩
  | _, [], _ :: _, h => by unfold dvB.dvAll at h; cases h
  | _, _ :: _, [], h => by unfold dvB.dvAll at h; cases h
  | n, d :: ds, u :: us, h => by
    unfold dvB.dvAll at h
    obtain ⟨h1, h2⟩ := ba h
    obtain ⟨v, a1, a2⟩ := dvB_ok n d u h1
    obtain ⟨vs, b1, b2⟩ := dvAll_ok n ds us h2
    exact ⟨v :: vs, .cons a1 b1, fun r H => .cons (a2 r H) (b2 r H)⟩
end
/-- a constant of the module -/
def xCon (x : Str) (d : D) : Xf := fun K => match PySem.W.nsIn K mainGlobals x with
  | some (some u) => dvB K 9 d u
  | _ => false
theorem xCon_ok {K : PySem.W.Frag} {mg : Mg} {h : Heap} {x : Str} {d : D} (X : K.In h) (G : h.Ns mainGlobals mg) (e : xCon x d K = true) : ∃ u v, mg x = some u ∧ RelV v u ∧ ∀ r H, RelD K mg r H d v := by
  unfold xCon at e
  split at e
  · rename_i u en
    obtain ⟨v, h1, h2⟩ := dvB_ok 9 d u e
    exact ⟨u, v, PySem.W.mg_of X G en, h1, h2⟩
  · cases e
/-- a table's values -/
def xTab (x : Str) (tab : List (Str × D)) : Xf := fun K => tab.all fun q => match PySem.W.nsIn K (ga K x) q.1 with
  | some (some u) => dvB K 9 q.2 u
  | _ => false
theorem lookup_mem' {z : Str} {d : D} : ∀ {tab : List (Str × D)}, tab.lookup z = some d → (z, d) ∈ tab
  | [], h => by cases h
  | (k, e) :: r, h => by
    rw [List.lookup_cons] at h
    by_cases q : (z == k) = true
    · rw [q] at h
      cases h
      cases beq_iff_eq.mp q
      exact List.mem_cons_self
    · have q' : (z == k) = false := by simpa using q
      rw [q'] at h
      exact List.mem_cons_of_mem _ (lookup_mem' h)
theorem lookup_none' {z : Str} : ∀ {tab : List (Str × D)}, tab.lookup z = none → z ∉ tab.map (·.1)
  | [], _ => by simp
  | (k, e) :: r, h => by
    rw [List.lookup_cons] at h
    by_cases q : (z == k) = true
    · rw [q] at h; cases h
    · have q' : (z == k) = false := by simpa using q
      rw [q'] at h
      simp only [List.map_cons, List.mem_cons, not_or]
      exact ⟨fun e => by rw [e] at q; simp at q, lookup_none' h⟩
theorem keys_of {P : Params} {z : Str} : ∀ {l : List DictEntry} {ks : List Str}, l.map He.keyOf = keysIn P ks → z ∉ ks → l.find? (fun e => e.key.isStr z) = none ∧ l.any (·.refKey) = false
  | [], _, _, _ => ⟨rfl, rfl⟩
  | e :: r, [], h, _ => by cases h
  | e :: r, k :: ks, h, hz => by
    have h1 : He.keyOf e :: r.map He.keyOf = some (k, PyData.keyHash P k) :: keysIn P ks := h
    injection h1 with h2 h3
    obtain ⟨i1, i2⟩ := keys_of h3 fun m => hz (List.mem_cons_of_mem _ m)
    unfold He.keyOf at h2
    split at h2
    · rename_i x t q
      obtain ⟨h5, _⟩ := Prod.mk.inj (Option.some.inj h2)
      subst h5
      have hne : (x == z) = false := by
        cases b : (x == z) with
        | false => rfl
        | true => exact absurd (by rw [beq_iff_eq.mp b]; exact List.mem_cons_self) hz
      have e1 : e.key.isStr z = false := by rw [q]; exact hne
      have e2 : e.refKey = false := by unfold DictEntry.refKey; rw [q]
      exact ⟨by rw [List.find?_cons, e1]; exact i1, by rw [List.any_cons, e2, i2]; rfl⟩
    · cases h2
theorem tab_ok {K : PySem.W.Frag} {mg : Mg} {w : World} {x : Str} {tab : List (Str × D)} (hg : mg x = some (.ref (ga K x))) (hd : dicW K (ga K x) = some (keysIn w.params (tab.map (·.1)))) (hv : xTab x tab K = true) : KTab K w mg x tab := by
  obtain ⟨es, n, kd⟩ := He.dicW_ok hd
  refine ⟨ga K x, es, n, hg, kd, fun z hz => ?_, fun z d hz => ?_⟩
  · have hk : es.toList.map He.keyOf = keysIn w.params (tab.map (·.1)) := by
      unfold He.dicW at hd
      rw [kd.at_] at hd
      dsimp only at hd
      split at hd
      · exact Option.some.inj hd
      · cases hd
    obtain ⟨e1, e2⟩ := keys_of hk (lookup_none' hz)
    unfold PySem.W.nsIn
    rw [kd.at_]
    dsimp only
    rw [e1]
    dsimp only
    rw [e2]
    rfl
  · have hm := List.all_eq_true.mp hv _ (lookup_mem' hz)
    dsimp only at hm
    split at hm
    · rename_i u eu
      obtain ⟨v, h1, h2⟩ := dvB_ok (mg := mg) 9 d u hm
      exact ⟨u, v, eu, h1, h2⟩
    · cases hm
end Lw

namespace Lw
open PySem PySem.Spec PyProof.Rows L2

/-! ### a def as it may be called, with no place told -/
structure FdG (P : Program) (w : World) (K : PySem.W.Frag) (mg : Mg) (base : Heap) (k : Nat) (f : Addr) (u : Spec) (dd : List D) : Prop where
  ex : ∃ fd ps dvs ds, FnG P w K mg base k f fd ps (spOf K mg u) ∧ Binds K fd ps ds ∧ Vals dvs ds ∧ ∀ r H, RelDs K mg r H dd dvs
  kp : PySem.W.keepIn K (.ref f) = true
theorem FdG.fn {X : Cx} {j k : Nat} {f : Addr} {u : Spec} {dd : List D} (h : FdG X.prog X.w X.K X.mg X.base j f u dd) (l : j ≤ k) : Fn X k f u dd :=
  let ⟨⟨fd, ps, dvs, ds, a, b, c, d⟩, kp⟩ := h
  ⟨⟨fd, ps, dvs, ds, a.mono l, b, c, d⟩, kp⟩
theorem fdg_of {P : Program} {w : World} {K : PySem.W.Frag} {mg : Mg} {base : Heap} {x qual : Str} {params : Arguments} {bd : List Stmt} {scope : Scope} {f : Addr} {fd : FuncData} {k : Nat} {ps : List Str} {u : Spec}
    (F : FunD K x qual params bd scope [] [] f fd) (G : FnG P w K mg base k f fd ps (spOf K mg u))
    (hb : ∀ (kV doc pm : Value) (an : Option Addr) (cdv ct : Value) (us : List Value), us.length = ps.length → bindArgs (PySem.W.fnOf x qual params bd scope .none kV doc pm an cdv ct) ⟨us, []⟩ = pure (ps.zip us)) : FdG P w K mg base k f u [] :=
  ⟨⟨fd, ps, [], [], G, F.bindsN hb, .nil, fun _ _ => .nil⟩, F.kp⟩
theorem vals_of_ints {vs : List Value} {ns : List Int} (h : IntsAre vs ns) : Vals (ns.map V.int) vs := vals_ints h
theorem relDs_ints {K : PySem.W.Frag} {mg : Mg} {r : List Addr} {H : Hp} : ∀ ns : List Int, RelDs K mg r H (ns.map D.int) (ns.map V.int)
  | [] => .nil
  | n :: ns => .cons (.int n) (relDs_ints ns)
/-- the law's end -/
theorem walk_ofG {l : PySem.W.OpenLaw} {n k : Nat} {q : Program} {loose : List Str} {XP : (Str → Option Value) → Heap → Prop} {YP : World → Heap → Prop} {d : DefRec} {x : Str}
    (hn : l.most = some n) (hn2 : n ≤ sizeLine) (hdf : d.params.defaults = []) (hr : Room k callerA)
    (F : ∀ (w : World) (mg : Mg) (f : Addr) (h : Heap), YP w h → h.Ns mainGlobals mg → mg d.name = some (.ref f) →
      ∃ (K : PySem.W.Frag) (fd : FuncData) (u : Spec), K.In h ∧ (∀ a o, K.lookup a = some o → keepO o = true) ∧ (∀ (s : Shared) (v : Value), BindsTo s fd ⟨[v], []⟩ [(x, v)]) ∧
        (∀ ns : List Int, ns.length ≤ n → (∀ i ∈ ns, Builtin.Int.intBits i ≤ 1048576) → u [.ref 0] [.frz (ns.map D.int)] (fun d _ => d = .bl true) fun _ _ => False) ∧
        ∀ base : Heap, FnG l.prog w K mg base k f fd [x] (spOf K mg u)) :
    PySem.W.WalkO q loose XP YP l.row.toRowW d [] (fun f vs => PySem.call f vs) := by
  refine Att.attach_callB hn hdf fun w s₀ s₁ mg mb f o pm cd doc a vs ns G Y ho hd hcd hmg hobj hints hlen hbits hg => ?_
  obtain ⟨K, fd, u, KX, kk, hb, hsp, hF⟩ := F w mg f _ Y G.T.g hmg
  have hk : K.lookup a = none := by
    cases e : K.lookup a with
    | none => rfl
    | some ob =>
      have e1 := KX a ob e
      rw [hobj] at e1
      cases e1
      have z := kk a _ e
      cases (show false = true from z)
  have rv := vals_of_ints hints
  let H : Hp := fun b => if b = a then some (.frz { cls := .type "list", data := .seq vs.toArray } (.lst (ns.map V.int))) else none
  have Ha : H a = some (.frz { cls := .type "list", data := .seq vs.toArray } (.lst (ns.map V.int))) := if_pos rfl
  have Hn : ∀ b, b ≠ a → H b = none := fun b nb => if_neg nb
  have hok : HOk l.prog w H s₁.heap := fun b u z => by
    by_cases e : b = a
    · subst e
      rw [Ha] at z; cases z
      exact ⟨hobj, by rw [List.length_map]; exact Nat.le_trans hlen hn2, vs, _, rv, hobj⟩
    · rw [Hn b e] at z; cases z
  have out : ∀ {b : Addr} {ob : Obj}, s₁.heap.get? b = some ob → b ≠ a → (hidT s₁.heap H).get? b = some ob := fun e nb => hidT_get e (Hn _ nb)
  have dic : ∀ {b : Addr} {ob : Obj} {es : Array DictEntry} {ep : Nat}, s₁.heap.get? b = some ob → ob.data = .dict es ep → b ≠ a := fun {b ob es ep} e d z => by
    subst z
    rw [hobj] at e; cases e
    have d' : Data.seq vs.toArray _ = Data.dict es ep := d
    cases d'
  have nsK : ∀ {b : Addr} {m : Str → Option Value}, s₁.heap.Ns b m → (hidT s₁.heap H).Ns b m := fun {b m} ⟨ob, es, ep, e, d, r⟩ => ⟨ob, es, ep, out e (dic e d), d, r⟩
  have kin : K.In (hidT s₁.heap H) := fun b ob e => out (KX b ob e) fun z => by rw [z, hk] at e; cases e
  have hM : Mod K mg (hidT s₁.heap H) := ⟨kin, nsK G.T.g, ⟨mb, nsK G.T.b, G.T.builtins⟩, let ⟨mc, h1, h2⟩ := G.T.nolimit; ⟨mc, nsK h1, h2⟩⟩
  have e0 : Env0 l.prog w K mg (hidT s₁.heap H) callerA [] s₁ H := ⟨rfl, hM, fun b ob e => of_hidT e, Nat.le_of_eq (hidT_size _ _), trivial, fun b hb => absurd (show b ∈ ([] : List Addr) from hb) (by simp), hok, .of_eq hg⟩
  have sim : Sim K mg [a] H [.frz (ns.map D.int)] := by
    refine ⟨rfl, by simp, fun i o b h1 h2 => ?_⟩
    match i, h1, h2 with
    | 0, h1, h2 =>
      cases h1; cases h2
      exact .frz Ha (relDs_ints ns)
    | i + 1, h1, _ => simp at h1
  have sp : spOf K mg u [.ref a] H (fun v _ => v = .bl true) fun _ _ _ => False := by
    refine ⟨[a], _, [.ref 0], _, _, sim, .cons (.ref rfl) .nil, hsp ns hlen hbits, fun d S' r' v H' hq _ _ rd => ?_, fun _ _ _ _ _ _ h _ _ _ => h⟩
    subst hq
    cases rd
    rfl
  refine codeAny_mono ((hF (hidT s₁.heap H)).run callerA [] s₁ H ⟨[.ref a], []⟩ [.ref a] [.ref a] _ _ hr rfl e0 (hb s₁ (.ref a)) (.cons rfl .nil) sp) fun r s' h => ?_
  cases r with
  | error e =>
    obtain ⟨_, _, _, _, _, _, _, _, _, _, _, _, z⟩ := h
    exact z.elim
  | ok fl =>
    cases fl with
    | next => exact False.elim h
    | brk => exact False.elim h
    | cont => exact False.elim h
    | ret uv =>
      obtain ⟨v, H', os, bare, un, hok', r', q'⟩ := h
      subst q'
      obtain rfl : uv = Value.bool true := r'
      refine ⟨rfl, OldK.of_keep fun b ob e => ?_, os, bare⟩
      by_cases nb : b = a
      · subst nb
        have z2 := un.frzs b _ _ Ha
        obtain ⟨e2, _⟩ := hok' b _ z2
        rw [hobj] at e; cases e
        exact e2
      · exact un.keep b ob e (Hn b nb) (by intro z; exact absurd (show b ∈ ([] : List Addr) from z) (by simp)) (by simp)
end Lw

namespace Lw
open PySem PySem.Spec PyProof.Rows L2

/-! ### room -/
theorem CallOk.u64 {X : Cx} {c : Cn} {k : Nat} (h : CallOk X c k) : X.A.units + 64 < cLine := by have := h.room.un; omega
theorem CallOk.u65 {X : Cx} {c : Cn} {k : Nat} (h : CallOk X c k) : X.A.units + 65 < cLine := by have := h.room.un; omega
theorem CallOk.u70 {X : Cx} {c : Cn} {k : Nat} (h : CallOk X c k) : X.A.units + 70 < cLine := by have := h.room.un; omega
theorem CallOk.u0 {X : Cx} {c : Cn} {k : Nat} (h : CallOk X c k) : X.A.units < cLine := by have := h.room.un; omega
/-! ### o[i] = e -/
def noQ : QX := fun _ _ => False
theorem goX_no {c : Cn} {r : List Addr} {H : Hp} {s : L2.St} : GoX c r H s noQ := fun _ _ _ _ _ _ h _ _ _ => h.elim
def gmSub (o i : ME) : MG := fun d sd S k => o sd S (fun dx S1 => i sd S1 (fun di S2 => match dx, di with
  | .ref n, .int j => (match lstO S2 n with
    | some ds => (match ixN ds.length j with
      | some p => k sd (S2.set n (.lst (ds.set p d)))
      | none => False)
    | none => False)
  | _, _ => False) noQ) noQ
theorem RelDs.set {K : PySem.W.Frag} {mg : Mg} {r : List Addr} {H : Hp} : ∀ {ds : List D} {vs : List V} {d : D} {v : V} (j : Nat), RelDs K mg r H ds vs → RelD K mg r H d v → RelDs K mg r H (ds.set j d) (vs.set j v)
  | _, _, _, _, _, .nil, _ => .nil
  | _, _, _, _, 0, .cons _ q, h => .cons h q
  | _, _, _, _, j + 1, .cons a q, h => .cons a (RelDs.set j q h)
section
variable {X : Cx} {c : Cn} {m ma mb mc : ME} {a b e o i : Expr} {es : List Expr} {mr : MA} {p pos apos : Pos} {k : Nat} {f C : Addr} {u : Spec} {cn : Str}
theorem gm_sub (ho : PE X o (tE c ma)) (hi : PE X i (tE c mb))
    (h : ∀ v, assign (.Subscript o i pos) X.env v = (do
      let ov ← holding [v] (eval o X.env)
      let iv ← holding [v, ov] (eval i X.env)
      standAt pos
      holding [v, ov, iv] (setItem ov iv v)
      release [v, ov, iv] []) := by intro _; rfl) : PG X (.Subscript o i pos) (tGm c (gmSub ma mb)) := weakG (pg_sub ho hi set_list h) fun v s H Q z => by
  obtain ⟨r, S, sd, d, kk, a, rd, hg, n⟩ := z
  refine ⟨r, S, sd, _, noQ, a, hg, fun dx S1 r1 ov H1 h1 t1 sm1 rd1 => ?_, goX_no⟩
  refine ⟨r1, S1, sd, _, noQ, a.step t1 sm1, h1, fun di S2 r2 iv H2 h2 t2 sm2 rd2 => ?_, goX_no⟩
  dsimp only at h2
  split at h2
  · rename_i nn j
    split at h2
    · rename_i ds es
      split at h2
      · rename_i p ep
        obtain ⟨aa, vs, rfl, er, eH, rvs⟩ := lst_of sm2 (rd1.mono t2) es
        cases rd2
        have rdv := (rd.mono t1).mono t2
        refine ⟨aa, vs, j, p, rfl, rfl, eH, by rw [← rvs.length]; exact ep, ?_⟩
        have ha : aa ∈ r2 := List.mem_iff_getElem?.mpr ⟨nn, er⟩
        have nf : ∀ ob u, H2 aa ≠ some (.frz ob u) := fun ob u z => by rw [eH] at z; cases z
        have t3 : Stp r2 H2 r2 (upd H2 aa (.lst (vs.set p v))) := Stp.write sm2 ha nf
        exact n sd _ r2 s _ h2 ((t1.trans t2).trans t3) (sm2.write er nf (.lst upd_same ((rvs.set p rdv).mono t3))) (((a.rel.mono t1).mono t2).mono t3)
      · exact h2.elim
    · exact h2.elim
  · exact h2.elim
/-! ### truth -/
def truD (S : Sto) : D → Option Bool
  | .non => some false
  | .bl b => some b
  | .int i => some (i != 0)
  | .str z => if z.length ≤ sizeLine then some ((z.length : Int) != 0) else none
  | .tup ds => some (!ds.isEmpty)
  | .ref n => (seqO S n).map fun ds => !ds.isEmpty
  | _ => none
theorem isEmpty_rs {K : PySem.W.Frag} {mg : Mg} {r : List Addr} {H : Hp} {ds : List D} {vs : List V} (h : RelDs K mg r H ds vs) : vs.isEmpty = ds.isEmpty := by cases h <;> rfl
theorem truD_ok {r : List Addr} {H : Hp} {S : Sto} {d : D} {v : V} {b : Bool} (sm : c.Sm r H S) (rd : c.Rd r H d v) (h : truD S d = some b) : TruV c.K v H b := by
  cases d with
  | non => cases rd; cases h; rfl
  | bl _ => cases rd; cases h; rfl
  | int _ => cases rd; cases h; rfl
  | nm _ => cases h
  | adr _ => cases h
  | str z =>
    cases rd
    unfold truD at h
    dsimp only at h
    split at h
    · rename_i hz; cases h; exact ⟨hz, rfl⟩
    · cases h
  | tup ds =>
    obtain ⟨a, vs, rfl, h1, h2⟩ := tup_of rd
    cases h
    exact .inr (.inl ⟨vs, h1, by rw [isEmpty_rs h2]⟩)
  | ref n =>
    unfold truD at h
    dsimp only at h
    cases e : seqO S n with
    | none => rw [e] at h; cases h
    | some ds =>
      rw [e] at h
      cases h
      obtain ⟨a, vs, rfl, _, h1, h2⟩ := seq_of sm rd e
      exact .inl ⟨vs, h1, by rw [isEmpty_rs h2]⟩
def mtT (m : ME) : MT := fun sd S q x => m sd S (fun d S1 => match truD S1 d with
  | some b => q b S1
  | none => False) x
theorem mt_tru (hK : c.K = X.K) (ha : PE X a (tE c m)) (he : ∀ whole, isTrue a X.env whole = (do let v ← whole; standAt a.pos; holding [v] (truthy v)) := by intro _; rfl) : PT X a (tT c (mtT m)) := weakT (pt_truth ha he) fun s H Q z => by
  obtain ⟨r, S, sd, q, x, a, hm, g, gx⟩ := z
  refine ⟨r, S, sd, _, x, a, hm, fun d S1 r1 v H1 h1 t1 s1 rd1 => ?_, gx⟩
  dsimp only at h1
  split at h1
  · rename_i b eb
    exact ⟨b, by rw [← hK]; exact truD_ok s1 rd1 eb, g b S1 r1 H1 h1 t1 s1⟩
  · exact h1.elim
def mOrT (a b : ME) : ME := fun sd S q x => a sd S (fun d S1 => match truD S1 d with
  | some k => if k = true then q d S1 else b sd S1 q x
  | none => False) x
def mAndT (a b : ME) : ME := fun sd S q x => a sd S (fun d S1 => match truD S1 d with
  | some k => if k = true then b sd S1 q x else q d S1
  | none => False) x
theorem me_orT {rest : List Expr} (hK : c.K = X.K) (ha : PE X a (tE c ma)) (hb : PE X (.BoolOp .Or (b :: rest) pos) (tE c mb)) : PE X (.BoolOp .Or (a :: b :: rest) pos) (tE c (mOrT ma mb)) := weakE (pe_orT ha hb) fun s H Q z => by
  obtain ⟨r, S, sd, q, x, a, hm, g, gx⟩ := z
  refine ⟨r, S, sd, _, x, a, hm, fun d S1 r1 v H1 h1 t1 s1 rd1 => ?_, gx⟩
  dsimp only at h1
  split at h1
  · rename_i k ek
    refine ⟨k, by rw [← hK]; exact truD_ok s1 rd1 ek, ?_⟩
    cases k with
    | true => rw [if_pos rfl] at h1 ⊢; exact g d S1 r1 v H1 h1 t1 s1 rd1
    | false => rw [if_neg Bool.false_ne_true] at h1 ⊢; exact ⟨r1, S1, sd, q, x, a.step t1 s1, h1, g.step t1, gx.step t1⟩
  · exact h1.elim
theorem me_andT {rest : List Expr} (hK : c.K = X.K) (ha : PE X a (tE c ma)) (hb : PE X (.BoolOp .And (b :: rest) pos) (tE c mb)) : PE X (.BoolOp .And (a :: b :: rest) pos) (tE c (mAndT ma mb)) := weakE (pe_andT ha hb) fun s H Q z => by
  obtain ⟨r, S, sd, q, x, a, hm, g, gx⟩ := z
  refine ⟨r, S, sd, _, x, a, hm, fun d S1 r1 v H1 h1 t1 s1 rd1 => ?_, gx⟩
  dsimp only at h1
  split at h1
  · rename_i k ek
    refine ⟨k, by rw [← hK]; exact truD_ok s1 rd1 ek, ?_⟩
    cases k with
    | true => rw [if_pos rfl] at h1 ⊢; exact ⟨r1, S1, sd, q, x, a.step t1 s1, h1, g.step t1, gx.step t1⟩
    | false => rw [if_neg Bool.false_ne_true] at h1 ⊢; exact g d S1 r1 v H1 h1 t1 s1 rd1
  · exact h1.elim
/-- not e, as a value -/
def mNotB (t : MT) : ME := fun sd S q x => t sd S (fun k S1 => q (.bl (!k)) S1) x
theorem me_notT (hK : c.K = X.K) (ha : PE X a (tE c m)) : PE X (.UnaryOp .Not a pos) (tE c (mNotB (mtT m))) := weakE (pe_notT ha) fun s H Q z => by
  obtain ⟨r, S, sd, q, x, a, hm, g, gx⟩ := z
  refine ⟨r, S, sd, _, x, a, hm, fun d S1 r1 v H1 h1 t1 s1 rd1 => ?_, gx⟩
  dsimp only at h1
  split at h1
  · rename_i b eb
    exact ⟨b, by rw [← hK]; exact truD_ok s1 rd1 eb, g _ S1 r1 _ H1 h1 t1 s1 (.bl _)⟩
  · exact h1.elim
/-! ### a op b op' c -/
def mChain (f f' : MOp) (a b e : ME) : ME := fun sd S q x => a sd S (fun d1 S1 => b sd S1 (fun d2 S2 => f d1 d2 S2 (fun d3 S3 => match d3 with
  | .bl k => if k = true then e sd S3 (fun d4 S4 => f' d2 d4 S4 q) x else q (.bl false) S3
  | _ => False)) x) x
theorem chain_of {R R' : R2} {f f' : MOp} (w : ∀ v u H Q, rOp c f v u H Q → R v u H Q) (w' : ∀ v u H Q, rOp c f' v u H Q → R' v u H Q) : ∀ s H Q, tE c (mChain f f' ma mb mc) s H Q → tChain R R' (tE c ma) (tE c mb) (tE c mc) s H Q := fun s H Q z => by
  obtain ⟨r, S, sd, q, x, a, hm, g, gx⟩ := z
  refine ⟨r, S, sd, _, x, a, hm, fun d1 S1 r1 v H1 h1 t1 s1 rd1 => ?_, gx⟩
  refine ⟨r1, S1, sd, _, x, a.step t1 s1, h1, fun d2 S2 r2 u H2 h2 t2 s2 rd2 => ?_, gx.step t1⟩
  refine w _ _ _ _ ⟨r2, S2, d1, d2, _, s2, rd1.mono t2, rd2, h2, fun d3 S3 r3 y H3 h3 t3 s3 rd3 => ?_⟩
  have t13 := (t1.trans t2).trans t3
  cases rd3 with
  | bl k =>
    refine ⟨k, rfl, ?_⟩
    dsimp only at h3
    cases k with
    | true =>
      rw [if_pos rfl] at h3 ⊢
      exact ⟨r3, S3, sd, _, x, a.step t13 s3, h3, fun d4 S4 r4 y4 H4 h4 t4 s4 rd4 => w' _ _ _ _ ⟨r4, S4, d2, d4, q, s4, (rd2.mono t3).mono t4, rd4, h4, (g.step t13).step t4⟩, gx.step t13⟩
    | false => rw [if_neg Bool.false_ne_true] at h3 ⊢; exact g _ S3 r3 _ H3 h3 t13 s3 (.bl _)
  | _ => exact h3.elim
theorem me_chain {op op' : CmpOp} {f f' : MOp} (h : OpM X c (compareOp op) f) (h' : OpM X c (compareOp op') f') (ha : PE X a (tE c ma)) (hb : PE X b (tE c mb)) (hc : PE X e (tE c mc)) (hm : lastMarks [op, op'] [b, e] = false := by with_unfolding_all rfl) :
    PE X (.Compare a [op, op'] [b, e] pos) (tE c (mChain f f' ma mb mc)) := by
  obtain ⟨R, ho, w⟩ := h.ok
  obtain ⟨R', ho', w'⟩ := h'.ok
  exact weakE (pe_chain ho ho' ha hb hc hm) (chain_of w w')
theorem mt_chain {op op' : CmpOp} {f f' : MOp} (h : OpM X c (compareOp op) f) (h' : OpM X c (compareOp op') f') (ha : PE X a (tE c ma)) (hb : PE X b (tE c mb)) (hc : PE X e (tE c mc)) (hm : lastMarks [op, op'] [b, e] = false := by with_unfolding_all rfl) :
    PT X (.Compare a [op, op'] [b, e] pos) (tT c (mtB (mChain f f' ma mb mc))) := by
  obtain ⟨R, ho, w⟩ := h.ok
  obtain ⟨R', ho', w'⟩ := h'.ok
  exact weakT (pt_chain ho ho' ha hb hc hm) (test_of (chain_of w w'))
/-! ### a class's own method by its name: cn.m(e, ..), m a classmethod -/
structure CmF (X : Cx) (cn m : Str) (g : Addr) : Prop where
  ex : ∃ C mc p, X.mg cn = some (.ref C) ∧ ClX.CRead X.K C mc ∧ ClX.CMet X.K C mc m p g
def mCMeth (cn : Str) (u : Spec) (m : MA) : ME := fun sd S q x => m sd S (fun ds S1 => u (.nm cn :: ds) S1 q x) x
theorem me_cmeth {x mt : Str} {g : Addr} {pl : Sem Bool} (M : CmF X x mt g) (F : Fn X k g u []) (hc : CallOk X c k) (hg : Gl X x) (ha : PA X (e :: es) (tA c mr)) (hdb : (x == ("__debug__" : Str)) = false := by decide)
    (hst : starEach (e :: es) X.env = (false, eval e X.env) :: starEach es X.env := by rfl) (hpl : (backTo pos (starEach es X.env)).any (·.1) = false := by rfl)
    (ht : eval (.Call (.Attribute (.Name x p) mt apos) (e :: es) [] pos) X.env = (do
      let ov ← eval (.Name x p) X.env
      standAt apos.atName
      let (f, first) ← holding [ov] (getMethod ov mt pl)
      callWith pos f first (backTo pos (starEach (e :: es) X.env)) (backToKw pos (keywordEach [] X.env))) := by rfl) :
    PE X (.Call (.Attribute (.Name x p) mt apos) (e :: es) [] pos) (tE c (mCMeth x u mr)) := by
  refine ⟨fun pins s σ H Q I h => ?_⟩
  obtain ⟨C, mc, pa, hm, rd, cm⟩ := M.ex
  refine PySem.W.methodCall_KW (pl := pl) (ld_glob I hg hm ?_ hdb) ht
  obtain ⟨r, S, sd, q, xx, a, hmm, gv, gx⟩ := h
  refine ClX.getmethcm_ok I rd cm fun s2 I2 => ?_
  refine ClX.callwith_cm I2 (ClX.base_none I (Nat.le_refl _)) cm.fi (thn (ha.run pos _ s2 σ H (fun vs H1 => ∃ r1 S1 dl, c.Sm r1 H1 S1 ∧ c.Rs r1 H1 dl vs ∧ u (.nm x :: dl) S1 q xx ∧ Stp r H r1 H1) I2 ⟨r, S, sd, _, xx, a, hmm, fun dl S1 r1 vs H1 h t sm rd => ⟨r1, S1, dl, sm, rd, h, t⟩, gx⟩) fun us s3 ⟨vs, H1, I3, rv, r1, S1, dl, sm, rdl, hu, t⟩ => ⟨⟨ClX.pin_at I3, I3.kIn⟩, ?_⟩) hst hpl
  refine thn (wpAny_call (PySem.W.method_call (ClX.pin_at I3) (fn_code (us := .ref C :: us) (vs := .ref C :: vs) (dl := .nm x :: dl) (Q := Q) F hc I3 (.cons rfl rv) sm (.cons (.nm (by rw [hc.mg]; exact hm)) rdl) hu (gv.step t) (gx.step t)))) fun _ _ y => ClX.unpinE y
end
def xCm (c m : Str) : Xf := fun K => PySem.W.readsIn K (ga' c K) (.type "type") && (He.eqO (PySem.W.specialIn K (.ref (ga' c K)) "__getattribute__") (some (some (.builtin "type.__getattribute__"))) && ((match PySem.W.findCls K (.ref (ga' c K)) (.type "type") m with
  | some (.get (.builtin n) (.ref p) .none (.ref C)) => n == "classmethod.__get__" && (decide (p = mA c m K) && decide (C = ga' c K))
  | _ => false) && ((match PySem.W.recIn K (mA c m K) "classmethod" with
  | some (.ref _ :: _) => true
  | _ => false) && PySem.W.fnIn K (cA c m K))))
where ga' (c : Str) (K : PySem.W.Frag) : Addr := He.ga K c
theorem xCm_ok {X : Cx} {c m : Str} (h : xCm c m X.K = true) (hg : X.mg c = some (.ref (He.ga X.K c))) : CmF X c m (cA c m X.K) := by
  obtain ⟨h1, h⟩ := He.ba h
  obtain ⟨h2, h⟩ := He.ba h
  obtain ⟨h3, h⟩ := He.ba h
  obtain ⟨h4, h5⟩ := He.ba h
  refine ⟨He.ga X.K c, .type "type", mA c m X.K, hg, ⟨h1, He.eqO_ok h2⟩, ?_, ?_, h5⟩
  · split at h3
    · rename_i n p C e
      obtain ⟨z1, h3⟩ := He.ba h3
      obtain ⟨z2, z3⟩ := He.ba h3
      cases beq_iff_eq.mp z1
      cases of_decide_eq_true z2
      have z3 := of_decide_eq_true z3
      rw [z3] at e
      exact e
    · cases h3
  · split at h4
    · rename_i g r e
      refine ⟨r, ?_⟩
      have e' : cA c m X.K = g := by
        unfold cA recA
        have e2 : PySem.W.recIn X.K (He.ma X.K (He.ga X.K c) m) "classmethod" = some (.ref g :: r) := e
        rw [e2]
      rw [e', e]
    · cases h4
end Lw

namespace Lw
open PySem PySem.Spec PyProof.Rows L2

section
variable {X : Cx} {c : Cn} {es : List Expr} {pos p : Pos}
/-- a constant of the module -/
theorem me_con {x : Str} {d : D} (hg : Gl X x) (h : ∃ u v, X.mg x = some u ∧ RelV v u ∧ ∀ r H, RelD X.K X.mg r H d v) (hK : c.K = X.K := by rfl) (hm : c.mg = X.mg := by rfl) (hd : (x == ("__debug__" : Str)) = false := by decide) : PE X (.Name x pos) (tE c (mC d)) := by
  obtain ⟨u, v, h1, h2, h3⟩ := h
  exact me_c (pe_glob hg h1 h2 hd) fun r H => by
    obtain ⟨cK, cmg, cP, cst, cW⟩ := c
    obtain rfl : cK = X.K := hK
    obtain rfl : cmg = X.mg := hm
    exact h3 r H
theorem gm_tup2 {k n : Nat} {h : MGs} (hs : PGs X es (tGms c h)) (hc : X.calm = true := by rfl) (hn : (assignEach es X.env).length = n := by rfl) (hst : (assignEach es X.env).findIdx? (·.1) = none := by rfl) (hK : c.K = X.K := by rfl) : PG X (.Tuple es k pos) (tGm c (gmTup n h)) :=
  gm_tup hK hc hs (pg_tup hc hs hn hst)
end
/-! ### exceptions that are raised, with no place told -/
structure XClsG (P : Program) (w : World) (K : PySem.W.Frag) (mg : Mg) (base : Heap) (cn : Str) (C : Addr) (names : List Str) : Prop where
  ex : ∃ B nw ini T fI fd ps, ExC K B nw ini T C ∧ PySem.W.findIn K (.ref C) "__init__" = some (some (.ref fI)) ∧ PySem.W.typeIn K (.ref fI) = some (.type "function") ∧
    FnOk P w K mg base CX0 1 fI fd ps (spInit C names) ∧ Binds K fd ps [] ∧ names.length ≤ 900
  mg : mg cn = some (.ref C)
theorem XClsG.x {X : Cx} {cn : Str} {C : Addr} {names : List Str} (h : XClsG X.prog X.w X.K X.mg X.base cn C names) : XCls X cn C names := ⟨h.ex, h.mg⟩
/-- the base ValueError -/
theorem eb_ValueError : EBase "ValueError" "ValueError.__new__" "ValueError.__init__" [.type "ValueError", .type "Exception", .type "BaseException", .type "object"] := ⟨PySem.F.excBase_ValueError, fun self => by kernel_rfl, by decide⟩
section
variable {P : Program} {w : World} {K : PySem.W.Frag} {mg : Mg} {base : Heap} {qual : Str} {params : Arguments} {bd : List Stmt} {scope : Scope} {C : Addr} {fd : FuncData} {cn : Str} {B nw ini : String} {T : List Value}
theorem xcls1 {g tx : Str} (E : ExC K B nw ini T (He.ga K cn)) (hm : mg cn = some (.ref (He.ga K cn))) (hi : xIni cn K = true) (F : FunD K "__init__" qual params bd scope [] [] (He.ma K (He.ga K cn) "__init__") fd) (S : FnScope ["self", g] ["self", g] scope)
    (hb : ∀ (cdv : Value) (A : Around) (outer : List Env) (s : Shared) (H : Hp) (E : XK), PSs (cxOf CX0 P w K mg base ["self", g] qual scope (He.ma K (He.ga K cn) "__init__") cdv A outer s H E).nox bd
      (tSeq (tDrop (tEI (He.ga K cn) (tCons (tVar 0) (tCons (tC (.str tx)) tNil)))) (tEst (He.ga K cn) g (tVar 0) (tVar 1))))
    (hbd : ∀ (kV doc pm : Value) (an : Option Addr) (cdv ct : Value) (us : List Value), us.length = (["self", g] : List Str).length → bindArgs (PySem.W.fnOf "__init__" qual params bd scope .none kV doc pm an cdv ct) ⟨us, []⟩ = pure ((["self", g] : List Str).zip us)) : XClsG P w K mg base cn (He.ga K cn) [g] := by
  obtain ⟨h1, h2⟩ := xIni_ok hi
  exact ⟨⟨B, nw, ini, T, _, fd, ["self", g], E, h1, h2, ok_ini1 F S hb, F.bindsN hbd, (show 1 ≤ 900 by decide)⟩, hm⟩
theorem xcls2 {g g2 tx : Str} (E : ExC K B nw ini T (He.ga K cn)) (hm : mg cn = some (.ref (He.ga K cn))) (hi : xIni cn K = true) (F : FunD K "__init__" qual params bd scope [] [] (He.ma K (He.ga K cn) "__init__") fd) (S : FnScope ["self", g, g2] ["self", g, g2] scope)
    (hb : ∀ (cdv : Value) (A : Around) (outer : List Env) (s : Shared) (H : Hp) (E : XK), PSs (cxOf CX0 P w K mg base ["self", g, g2] qual scope (He.ma K (He.ga K cn) "__init__") cdv A outer s H E).nox bd
      (tSeq (tDrop (tEI (He.ga K cn) (tCons (tVar 0) (tCons (tC (.str tx)) tNil)))) (tSeq (tEst (He.ga K cn) g (tVar 0) (tVar 1)) (tEst (He.ga K cn) g2 (tVar 0) (tVar 2)))))
    (hbd : ∀ (kV doc pm : Value) (an : Option Addr) (cdv ct : Value) (us : List Value), us.length = (["self", g, g2] : List Str).length → bindArgs (PySem.W.fnOf "__init__" qual params bd scope .none kV doc pm an cdv ct) ⟨us, []⟩ = pure ((["self", g, g2] : List Str).zip us)) : XClsG P w K mg base cn (He.ga K cn) [g, g2] := by
  obtain ⟨h1, h2⟩ := xIni_ok hi
  exact ⟨⟨B, nw, ini, T, _, fd, ["self", g, g2], E, h1, h2, ok_ini2 F S hb, F.bindsN hbd, (show 2 ≤ 900 by decide)⟩, hm⟩
end
/-! ### clauses -/
def xExm (tab : List (Str × Bool)) (y : Str) : Xf := fun K => tab.all fun q => decide (PySem.W.exmOne K (.ref (He.ga K q.1)) (.ref (He.ga K y)) = some q.2)
theorem tab_of {K : PySem.W.Frag} {mg : Mg} {tab : List (Str × Bool)} {y : Str} (h : xExm tab y K = true) (hg : ∀ q ∈ tab, mg q.1 = some (.ref (He.ga K q.1))) (cn : Str) (b : Bool) (cls : Value) (hl : tab.lookup cn = some b)
    (hx : ∃ (r : List Addr) (H : Hp) (fs : List (Str × D)) (d : Option Addr), RelX K mg r H ⟨cn, fs⟩ cls d) : PySem.W.exmOne K cls (.ref (He.ga K y)) = some b := by
  have hm : ∀ {tab : List (Str × Bool)}, tab.lookup cn = some b → (cn, b) ∈ tab := by
    intro tab
    induction tab with
    | nil => intro h; cases h
    | cons q r ih =>
      obtain ⟨k, e⟩ := q
      intro h
      rw [List.lookup_cons] at h
      by_cases q : (cn == k) = true
      · rw [q] at h
        cases h
        cases beq_iff_eq.mp q
        exact List.mem_cons_self
      · have q' : (cn == k) = false := by simpa using q
        rw [q'] at h
        exact List.mem_cons_of_mem _ (ih h)
  have m := hm hl
  have e := hg _ m
  have z := of_decide_eq_true (List.all_eq_true.mp h _ m)
  obtain ⟨r, H, fs, d, rx⟩ := hx
  cases rx with
  | own0 hc => rw [e] at hc; cases hc; exact z
  | own hc _ _ => rw [e] at hc; cases hc; exact z
  | blt hn => rw [e] at hn; cases hn
def xExR (cn f : Str) : Xf := fun K => PySem.W.hasDictIn K (He.ga K cn) && (He.eqO (PySem.W.findIn K (.ref (He.ga K cn)) f) (some none) && (He.eqO (PySem.W.findIn K (.ref (He.ga K cn)) "__getattribute__") (some (some (.builtin "BaseException.__getattribute__"))) &&
  ((PySem.W.findIn K (.ref (He.ga K cn)) "__getattr__").isSome && decide (PySem.W.subIn K (.ref (He.ga K cn)) (.type "BaseException") = some true))))
theorem xExR_ok {K : PySem.W.Frag} {mg : Mg} {cn f : Str} (h : xExR cn f K = true) (hg : mg cn = some (.ref (He.ga K cn))) : ExR K mg cn f := by
  obtain ⟨h1, h⟩ := He.ba h
  obtain ⟨h2, h⟩ := He.ba h
  obtain ⟨h3, h⟩ := He.ba h
  obtain ⟨h4, h5⟩ := He.ba h
  obtain ⟨gt, e⟩ := Option.isSome_iff_exists.mp h4
  exact ⟨_, gt, hg, h1, He.eqO_ok h2, He.eqO_ok h3, e, of_decide_eq_true h5⟩
end Lw

namespace Lw
open PySem PySem.Spec PyProof.Rows L2

def mNever : MS := fun _ _ _ => False
section
variable {X : Cx} {c : Cn} {k : Nat} {bd : List Stmt} {m : MS}
theorem mss_never : PSs X bd (tS c mNever) := ⟨fun _ _ _ _ _ _ z => by
  obtain ⟨r, S, sd, md, a, hm, g⟩ := z
  exact hm.elim⟩
/-- a suite that reads what one class alone has -/
theorem sIf {h : Prop} [Decidable h] (hp : h → PSs X bd (tS c m)) : PSs X bd (tS c (if h then m else mNever)) := by
  by_cases e : h
  · rw [if_pos e]; exact hp e
  · rw [if_neg e]; exact mss_never
theorem CallOk.tr {pn : List (Addr × Obj)} {xe : Value → Shared → Prop} {W : WX} (h : CallOk X c k) (tk : Takes (X.tr pn xe) W) : CallOk (X.tr pn xe) ⟨c.K, c.mg, c.P, c.st, W⟩ k := ⟨tk, h.room, h.gd, h.K, h.mg⟩
end
theorem Ctx.con {fa : List He.Fa} {fn : List Df} {ts : List Tb} {xs : List Xf} {w : World} {K : PySem.W.Frag} {mg : Mg} {x : Str} {d : D} (c : Ctx fa fn ts xs w K mg) (i : Nat) (h : xs[i]? = some (xCon x d) := by rfl) : ∃ u v, mg x = some u ∧ RelV v u ∧ ∀ r H, RelD K mg r H d v :=
  let ⟨_, h1, h2⟩ := c.h
  xCon_ok h1 h2 (c.x i h)
/-- the rule for a def, what a body needs told -/
theorem okD2 {P : Program} {w : World} {K : PySem.W.Frag} {mg : Mg} {base : Heap} {x qual : Str} {params : Arguments} {bd : List Stmt} {scope : Scope} {dvs : List V} {kws : List (Str × V)} {f : Addr} {fd : FuncData} {N ps : List Str} {k n NN : Nat} {m : MS}
    (F : FunD K x qual params bd scope dvs kws f fd) (S : FnScope N ps scope) (hn : ps.length = n) (hN : N.length = NN)
    (hb : ∀ (cdv : Value) (A : Around) (outer : List Env) (s : Shared) (H : Hp) (E : XK), Takes (cxOf (L2.CX P w) P w K mg base N qual scope f cdv A outer s H E) (fun cls d _ H' => E cls d H') →
      PassesOwn (model P w) (cxOf (L2.CX P w) P w K mg base N qual scope f cdv A outer s H E).A (cxOf (L2.CX P w) P w K mg base N qual scope f cdv A outer s H E).env (cxOf (L2.CX P w) P w K mg base N qual scope f cdv A outer s H E).xe →
      CallOk (cxOf (L2.CX P w) P w K mg base N qual scope f cdv A outer s H E) (Cx.cn (cxOf (L2.CX P w) P w K mg base N qual scope f cdv A outer s H E) (fun cls d _ H' => E cls d H')) k →
      PSs (cxOf (L2.CX P w) P w K mg base N qual scope f cdv A outer s H E) bd (tS (Cx.cn (cxOf (L2.CX P w) P w K mg base N qual scope f cdv A outer s H E) (fun cls d _ H' => E cls d H')) m)) :
    FnG P w K mg base (k + 1) f fd ps (spOf K mg (body n NN m)) := okD F S hn hN fun cdv A outer s H E hr hg => hb cdv A outer s H E (takes_of rfl rfl rfl rfl) (passes_of rfl) ⟨takes_of rfl rfl rfl rfl, hr, hg, rfl, rfl⟩
end Lw

namespace Lw
open PySem PySem.Spec PyProof.Rows L2

/-! ### unfolding by equations (not by definition: the kernel must not walk the program) -/
section
variable {md : MEnds} {sd : Sg} {S : Sto} {q : QD} {x : QX} {a b m o e : ME} {p r : MS} {t ta tb : MT} {u : Spec} {ml : MA} {f f' : MOp} {d dv : D} {ds dd : List D} {k : Sg → Sto → Prop} {g : MG} {gs : MGs} {i j n : Nat} {cn fn mt T : Str} {cs : List Str}
theorem e_mNext : mNext md sd S = md.nx sd S := Eq.trans rfl rfl
theorem e_mSeq : mSeq p r md sd S = p { md with nx := r md } sd S := Eq.trans rfl rfl
theorem e_mExpr : mExpr m md sd S = m sd S (fun _ S1 => md.nx sd S1) (fun e S1 => md.ex e sd S1) := Eq.trans rfl rfl
theorem e_mRet : mRet m md sd S = m sd S md.rt (fun e S1 => md.ex e sd S1) := Eq.trans rfl rfl
theorem e_mRetN : mRetN md sd S = md.rt .non S := Eq.trans rfl rfl
theorem e_mIfS : mIfS t p r md sd S = t sd S (fun k S1 => if k = true then p md sd S1 else r md sd S1) (fun e S1 => md.ex e sd S1) := Eq.trans rfl rfl
theorem e_mBreak : mBreak md sd S = md.bk sd S := Eq.trans rfl rfl
theorem e_mCont : mCont md sd S = md.ct sd S := Eq.trans rfl rfl
theorem e_mAsg : mAsg m g md sd S = m sd S (fun d S1 => g d sd S1 md.nx) (fun e S1 => md.ex e sd S1) := Eq.trans rfl rfl
theorem e_mPar : mPar i j a b md sd S = a sd S (fun d S1 => b sd S1 (fun e S2 => md.nx ((sd.set i (some d)).set j (some e)) S2) (fun e S1 => md.ex e sd S1)) (fun e S1 => md.ex e sd S1) := Eq.trans rfl rfl
theorem e_gmName : gmName i d sd S k = k (sd.set i (some d)) S := Eq.trans rfl rfl
theorem e_gmNil : gmNil [] sd S k = k sd S := Eq.trans rfl rfl
theorem e_gmCons : gmCons g gs (d :: ds) sd S k = g d sd S (fun sd1 S1 => gs ds sd1 S1 k) := Eq.trans rfl rfl
theorem e_gmTup : gmTup n gs (.tup ds) sd S k = (ds.length = n ∧ gs ds sd S k) := Eq.trans rfl rfl
theorem e_gmSub : gmSub o m d sd S k = o sd S (fun dx S1 => m sd S1 (fun di S2 => match dx, di with
  | .ref n, .int j => (match lstO S2 n with
    | some ds => (match ixN ds.length j with
      | some p => k sd (S2.set n (.lst (ds.set p d)))
      | none => False)
    | none => False)
  | _, _ => False) noQ) noQ := Eq.trans rfl rfl
theorem e_mVar : mVar i sd S q x = (match sd[i]? with
  | some (some d) => q d S
  | _ => False) := Eq.trans rfl rfl
theorem e_mC : mC d sd S q x = q d S := Eq.trans rfl rfl
theorem e_mOp : mOp f a b sd S q x = a sd S (fun d S1 => b sd S1 (fun e S2 => f d e S2 q) x) x := Eq.trans rfl rfl
theorem e_mtB {Q : Bool → Sto → Prop} : mtB m sd S Q x = m sd S (fun d S1 => match d with
  | .bl b => Q b S1
  | _ => False) x := Eq.trans rfl rfl
theorem e_mtT {Q : Bool → Sto → Prop} : mtT m sd S Q x = m sd S (fun d S1 => match truD S1 d with
  | some b => Q b S1
  | none => False) x := Eq.trans rfl rfl
theorem e_mtNot {Q : Bool → Sto → Prop} : mtNot t sd S Q x = t sd S (fun k S1 => Q (!k) S1) x := Eq.trans rfl rfl
theorem e_mtAnd {Q : Bool → Sto → Prop} : mtAnd ta tb sd S Q x = ta sd S (fun k S1 => if k = true then tb sd S1 Q x else Q false S1) x := Eq.trans rfl rfl
theorem e_mtOr {Q : Bool → Sto → Prop} : mtOr ta tb sd S Q x = ta sd S (fun k S1 => if k = true then Q true S1 else tb sd S1 Q x) x := Eq.trans rfl rfl
theorem e_mAnd : mAnd a b sd S q x = a sd S (fun d S1 => match d with
  | .bl k => if k = true then b sd S1 q x else q (.bl false) S1
  | _ => False) x := Eq.trans rfl rfl
theorem e_mOr : mOr a b sd S q x = a sd S (fun d S1 => match d with
  | .bl k => if k = true then q (.bl true) S1 else b sd S1 q x
  | _ => False) x := Eq.trans rfl rfl
theorem e_mAndT : mAndT a b sd S q x = a sd S (fun d S1 => match truD S1 d with
  | some k => if k = true then b sd S1 q x else q d S1
  | none => False) x := Eq.trans rfl rfl
theorem e_mOrT : mOrT a b sd S q x = a sd S (fun d S1 => match truD S1 d with
  | some k => if k = true then q d S1 else b sd S1 q x
  | none => False) x := Eq.trans rfl rfl
theorem e_mIf : mIf t a b sd S q x = t sd S (fun k S1 => if k = true then a sd S1 q x else b sd S1 q x) x := Eq.trans rfl rfl
theorem e_mNotB : mNotB t sd S q x = t sd S (fun k S1 => q (.bl (!k)) S1) x := Eq.trans rfl rfl
theorem e_mChain : mChain f f' a b e sd S q x = a sd S (fun d1 S1 => b sd S1 (fun d2 S2 => f d1 d2 S2 (fun d3 S3 => match d3 with
  | .bl k => if k = true then e sd S3 (fun d4 S4 => f' d2 d4 S4 q) x else q (.bl false) S3
  | _ => False)) x) x := Eq.trans rfl rfl
theorem e_maNil {Q : List D → Sto → Prop} : maNil sd S Q x = Q [] S := Eq.trans rfl rfl
theorem e_maCons {Q : List D → Sto → Prop} : maCons a ml sd S Q x = a sd S (fun d S1 => ml sd S1 (fun ds S2 => Q (d :: ds) S2) x) x := Eq.trans rfl rfl
theorem e_mTup : mTup ml sd S q x = ml sd S (fun ds S1 => ds.length ≤ sizeLine ∧ q (.tup ds) S1) x := Eq.trans rfl rfl
theorem e_mLst : mLst ml sd S q x = ml sd S (fun ds S1 => ds.length ≤ sizeLine ∧ q (.ref S1.length) (S1 ++ [.lst ds])) x := Eq.trans rfl rfl
theorem e_mCall : mCall u dd ml sd S q x = ml sd S (fun ds S1 => u (ds ++ dd) S1 q x) x := Eq.trans rfl rfl
theorem e_mFld : mFld cn fn o sd S q x = o sd S (fun d S1 => isIns cn d S1 fun fs => match fs.lookup fn with
  | some v => q v S1
  | none => False) x := Eq.trans rfl rfl
theorem e_mProp : mProp cn u o sd S q x = o sd S (fun d S1 => isIns cn d S1 fun _ => u [d] S1 q (fun _ _ => False)) x := Eq.trans rfl rfl
theorem e_mMeth : mMeth cn mt u dd o ml sd S q x = o sd S (fun d S1 => isIns cn d S1 fun fs => fs.lookup mt = none ∧ ml sd S1 (fun ds S2 => u (d :: (ds ++ dd)) S2 q x) x) x := Eq.trans rfl rfl
theorem e_mMake : mMake cn u dd ml sd S q x = ml sd S (fun ds S1 => u (.ref S1.length :: (ds ++ dd)) (S1 ++ [.ins cn []]) (fun d S2 => d = .non ∧ q (.ref S1.length) S2) x) x := Eq.trans rfl rfl
theorem e_mSetF : mSetF cn fn o e md sd S = e sd S (fun v S1 => o sd S1 (fun d S2 => match d with
  | .ref i => (match S2[i]? with
    | some (.ins c' fs) => c' = cn ∧ fs.length < 1000 ∧ md.nx sd (S2.set i (.ins cn (putD fn v fs)))
    | _ => False)
  | _ => False) (fun e S1 => md.ex e sd S1)) (fun e S1 => md.ex e sd S1) := Eq.trans rfl rfl
theorem e_mUnO : mUnO cn u m sd S q x = m sd S (fun d S1 => isIns cn d S1 fun _ => u [d] S1 q x) x := Eq.trans rfl rfl
theorem e_mBinO : mBinO cn u a b sd S q x = a sd S (fun d S1 => b sd S1 (fun e S2 => isIns cn d S2 fun _ => okR cn e S2 ∧ u [d, e] S2 q x) x) x := Eq.trans rfl rfl
theorem e_mCallO : mCallO cn u o ml sd S q x = o sd S (fun d S1 => isIns cn d S1 fun _ => ml sd S1 (fun ds S2 => isIns cn d S2 fun _ => u (d :: ds) S2 q x) x) x := Eq.trans rfl rfl
theorem e_mCMeth : mCMeth cn u ml sd S q x = ml sd S (fun ds S1 => u (.nm cn :: ds) S1 q x) x := Eq.trans rfl rfl
theorem e_mRaise {names : List Str} : mRaise cn names ml md sd S = ml sd S (fun ds S1 => ds.length = names.length ∧ md.ex ⟨cn, (names.zip ds).reverse⟩ sd S1) (fun e S1 => md.ex e sd S1) := Eq.trans rfl rfl
theorem e_mTry {ks : List Cls} : mTry p ks md sd S = p { md with ex := tryH md ks } sd S := Eq.trans rfl rfl
theorem e_mFn {h : MFn} : mFn h ml sd S q x = ml sd S (fun ds S1 => h ds S1 q) x := Eq.trans rfl rfl
theorem e_mNeg : mNeg m sd S q x = m sd S (fun d S1 => match d with
  | .int i => q (.int (-i)) S1
  | _ => False) x := Eq.trans rfl rfl
theorem e_mIsiB {T : String} : mIsiB T cs m sd S q x = m sd S (fun d S1 => match tyD S1 d with
  | some (.b s) => q (.bl (isB T s)) S1
  | some (.o k) => k ∈ cs ∧ q (.bl false) S1
  | none => False) x := Eq.trans rfl rfl
theorem e_mIsiO : mIsiO cn cs m sd S q x = m sd S (fun d S1 => match tyD S1 d with
  | some (.b s) => q (.bl false) S1
  | some (.o k) => k ∈ cs ∧ q (.bl (k == cn)) S1
  | none => False) x := Eq.trans rfl rfl
theorem e_mFor {mi : MI} : mFor mi g p md sd S = mi sd S (fun it S1 => forL it.ok g p md it.items sd S1) (fun e S1 => md.ex e sd S1) := Eq.trans rfl rfl
theorem e_miRange1 {Q : Itm → Sto → Prop} : miRange1 ml sd S Q x = ml sd S (fun ds S1 => match ds with
  | [.int j] => (-(2 ^ 62) ≤ j ∧ j < 2 ^ 62) ∧ Q ⟨rangeD 0 j.toNat, fun _ => True⟩ S1
  | _ => False) x := Eq.trans rfl rfl
theorem e_miRange2 {Q : Itm → Sto → Prop} : miRange2 ml sd S Q x = ml sd S (fun ds S1 => match ds with
  | [.int i, .int j] => (-(2 ^ 62) ≤ i ∧ i < 2 ^ 62 ∧ -(2 ^ 62) ≤ j ∧ j < 2 ^ 62) ∧ Q ⟨rangeD i (j - i).toNat, fun _ => True⟩ S1
  | _ => False) x := Eq.trans rfl rfl
theorem e_miTup {Q : Itm → Sto → Prop} : miTup m sd S Q x = m sd S (fun d S1 => match d with
  | .tup ds => Q ⟨ds, fun _ => True⟩ S1
  | _ => False) x := Eq.trans rfl rfl
theorem e_miLst {Q : Itm → Sto → Prop} : miLst m sd S Q x = m sd S (fun d S1 => match d with
  | .ref n => (match S1[n]? with
    | some (.lst ds) => Q ⟨ds, fun S2 => S2[n]? = some (.lst ds)⟩ S1
    | some (.frz ds) => Q ⟨ds, fun S2 => S2[n]? = some (.frz ds)⟩ S1
    | _ => False)
  | _ => False) x := Eq.trans rfl rfl
theorem e_body {N : Nat} : body n N p ds S q x = (ds.length = n ∧ p { nx := fun _ S' => q .non S', rt := q, bk := fun _ _ => False, ct := fun _ _ => False, ex := fun e _ S' => x e S' } (ds.map some ++ List.replicate (N - ds.length) none) S) := Eq.trans rfl rfl
/-! by values -/
theorem e_addII {i j : Int} : mAdd (.int i) (.int j) S q = q (.int (i + j)) S := Eq.trans rfl rfl
theorem e_addIB {i : Int} {k : Bool} : mAdd (.int i) (.bl k) S q = q (.int (i + b2i k)) S := Eq.trans rfl rfl
theorem e_addSS {i j : Str} : mAdd (.str i) (.str j) S q = (i.length + j.length ≤ sizeLine ∧ q (.str (i ++ j)) S) := Eq.trans rfl rfl
theorem e_addTT {i j : List D} : mAdd (.tup i) (.tup j) S q = (i.length + j.length ≤ sizeLine ∧ q (.tup (i ++ j)) S) := Eq.trans rfl rfl
theorem e_addRR {i j : Nat} : mAdd (.ref i) (.ref j) S q = (match lstO S i, lstO S j with
    | some a, some b => a.length + b.length ≤ sizeLine ∧ q (.ref S.length) (S ++ [.lst (a ++ b)])
    | _, _ => False) := Eq.trans rfl rfl
theorem e_subII {i j : Int} : mSub (.int i) (.int j) S q = q (.int (i - j)) S := Eq.trans rfl rfl
theorem e_mulII {i j : Int} : mMul (.int i) (.int j) S q = ((CMul i j ∨ CMulW i j) ∧ q (.int (i * j)) S) := Eq.trans rfl rfl
theorem e_fdivII {i j : Int} : mFdiv (.int i) (.int j) S q = ((0 < j ∧ j.natAbs.log2 < 9000) ∧ q (.int (i / j)) S) := Eq.trans rfl rfl
theorem e_modII {i j : Int} : mMod (.int i) (.int j) S q = (0 < j ∧ q (.int (i % j)) S) := Eq.trans rfl rfl
theorem e_powII {i j : Int} : mPow (.int i) (.int j) S q = (CPow i j ∧ q (.int (i ^ j.toNat)) S) := Eq.trans rfl rfl
theorem e_ltII {i j : Int} : mLt (.int i) (.int j) S q = q (.bl (decide (i < j))) S := Eq.trans rfl rfl
theorem e_leII {i j : Int} : mLe (.int i) (.int j) S q = q (.bl (decide (i ≤ j))) S := Eq.trans rfl rfl
theorem e_gtII {i j : Int} : mGt (.int i) (.int j) S q = q (.bl (decide (j < i))) S := Eq.trans rfl rfl
theorem e_geII {i j : Int} : mGe (.int i) (.int j) S q = q (.bl (decide (j ≤ i))) S := Eq.trans rfl rfl
theorem e_is : mIs d .non S q = q (.bl (isNonD d)) S := Eq.trans rfl rfl
theorem e_isNot : mIsNot d .non S q = q (.bl (!isNonD d)) S := Eq.trans rfl rfl
theorem e_ixT {i : Int} : mIx (.tup ds) (.int i) S q = (match atI ds i with
    | some x => q x S
    | none => False) := Eq.trans rfl rfl
theorem e_ixR {i : Int} : mIx (.ref n) (.int i) S q = (match seqO S n with
    | some ds => (match atI ds i with
      | some x => q x S
      | none => False)
    | none => False) := Eq.trans rfl rfl
theorem e_ixS {z : Str} {i : Int} : mIx (.str z) (.int i) S q = (z.length ≤ sizeLine ∧ (match atI z.cps.toList i with
    | some k => q (.str ⟨#[k]⟩) S
    | none => False)) := Eq.trans rfl rfl
theorem e_ixD {tab : List (Str × D)} {z : Str} : mIxT cn tab (.nm fn) (.str z) S q = (fn = cn ∧ (match tab.lookup z with
    | some v => q v S
    | none => False)) := Eq.trans rfl rfl
theorem e_inD {tab : List (Str × D)} {z : Str} : mInT cn tab (.str z) (.nm fn) S q = (fn = cn ∧ q (.bl (tab.lookup z).isSome) S) := Eq.trans rfl rfl
theorem e_isIns {K : List (Str × D) → Prop} : isIns cn (.ref n) S K = (match S[n]? with
    | some (.ins c' fs) => c' = cn ∧ K fs
    | _ => False) := Eq.trans rfl rfl
theorem e_fLenS {z : Str} : fLen [.str z] S q = (z.length ≤ sizeLine ∧ q (.int z.length) S) := Eq.trans rfl rfl
theorem e_fLenT : fLen [.tup ds] S q = q (.int ds.length) S := Eq.trans rfl rfl
theorem e_fLenR : fLen [.ref n] S q = (match seqO S n with
    | some xs => q (.int xs.length) S
    | none => False) := Eq.trans rfl rfl
theorem e_fMax2 {i j : Int} : fMax2 [.int i, .int j] S q = q (.int (if j > i then j else i)) S := Eq.trans rfl rfl
theorem e_fMin2 {i j : Int} : fMin2 [.int i, .int j] S q = q (.int (if j < i then j else i)) S := Eq.trans rfl rfl
theorem e_fAbs {i : Int} : fAbs [.int i] S q = q (.int (if i < 0 then -i else i)) S := Eq.trans rfl rfl
theorem e_fIntI {i : Int} : fInt [.int i] S q = q (.int i) S := Eq.trans rfl rfl
theorem e_fIntB {k : Bool} : fInt [.bl k] S q = q (.int (if k then 1 else 0)) S := Eq.trans rfl rfl
theorem e_fBoolI {i : Int} : fBool [.int i] S q = q (.bl (i != 0)) S := Eq.trans rfl rfl
theorem e_fBoolB {k : Bool} : fBool [.bl k] S q = q (.bl k) S := Eq.trans rfl rfl
theorem e_mExcF {xc : Exc} {ad : Addr} : mExcF xc ad i fn sd S q x = (match sd[i]? with
  | some (some (.adr b)) => b = ad ∧ (match xc.fs.lookup fn with
    | some d => q d S
    | none => False)
  | _ => False) := Eq.trans rfl rfl
theorem e_tryNil {xc : Exc} : tryH md [] xc sd S = md.ex xc sd S := Eq.trans rfl rfl
theorem e_tryCons {xc : Exc} {kc : Cls} {ks : List Cls} : tryH md (kc :: ks) xc sd S = (match kc.tab.lookup xc.c with
    | some true => ∀ a : Addr, kc.suite xc a { md with nx := fun sd' S' => md.nx (outS kc.slot sd') S', bk := fun sd' S' => md.bk (outS kc.slot sd') S', ct := fun sd' S' => md.ct (outS kc.slot sd') S', ex := fun _ _ _ => False } (inS kc.slot a sd) S
    | some false => tryH md ks xc sd S
    | none => False) := Eq.trans rfl rfl
end
end Lw

namespace Lw
open PySem PySem.Spec PyProof.Rows L2

/-! ### == and != by an own __eq__ -/
section
variable {prog : Program} {w : World} {A : Around} {E : Value → Shared → Prop} {st : Shared} {K : PySem.W.Frag} {ix ca lv fa : Addr} {hb0 : Heap} {mm : Str → Option Value} {oi : Obj} {oe : Option Obj} {rt tr : Value}
/-- what __eq__ told, turned round -/
def NeB (Q : Value → Shared → Prop) (v : Value) (s' : Shared) : Prop := ∃ b, v = .bool b ∧ Q (.bool (!b)) s'
open PySem.W PySem.Calls in
/-- x != y where the class has an own __eq__ and object's __ne__ -/
theorem ne_own {Q : Value → Shared → Prop} (room : A.units + 1 < cLine) (Fm : Fr hb0 lv st.heap mm) (K0 : K.In hb0) (J : InstAt st.heap ix oi ca oe) (hty : Looks (model prog w) st.heap (typeOf rt) tr) (nf : notFirst K ca tr = true)
    (hne : findIn K (.ref ca) "__ne__" = some (some (.builtin "object.__ne__"))) (hob : subIn K (.ref ca) (.type "object") = some true) (heq : findIn K (.ref ca) "__eq__" = some (some (.ref fa))) (hfn : isFn K (.ref fa) = true)
    (go : wpAny (model prog w) A.in1 (call (.ref fa) [.ref ix, rt]) (NeB Q) E st) : wpAny (model prog w) A (richCompare .NotEq (.ref ix) rt) Q E st := by
  have KI := K0.keeps Fm.keep
  have ty : Looks (model prog w) st.heap (typeOf (.ref ix)) (.ref ca) := J.type
  have sub : Looks (model prog w) st.heap (isInstance (.ref ix) (.type "object")) true := ty.andThen (looks_subIn KI hob)
  have inner : codeAny (model prog w) A (.call (.builtin "object.__ne__") ⟨[.ref ix, rt], []⟩) (fun r s' => match r with | .ok (.ret v) => (∃ b, v = .bool b) ∧ Q v s' | .ok _ => False | .error e => E e s') st := by
    refine codeAny_call_builtin PySem.F.cmp_object.ne.plain PySem.F.cmpEntry_ne (@check_slot (model prog w) _ _ st "object.__ne__" "object" "__ne__" (.ref ix) [rt] [] _ PySem.F.cmpKind_ne PySem.F.cmpSplit_ne sub (PySem.F.cmpArgs_ne (.ref ix) rt) ?_)
    unfold Builtin.«object.__ne__»
    refine wpAny_bind (wpAny_pure ?_)
    refine wpAny_bind (wpAny_cRoomFor room ?_)
    refine wpAny_bind (ifBound_K KI J heq hfn (wpAny_mono go (fun v s' hv => ?_) fun _ _ z => z))
    obtain ⟨b, rfl, hq⟩ := hv
    exact wpAny_bind (wpAny_truthy_bool (wpAny_pure ⟨⟨_, rfl⟩, hq⟩))
  have one : wpAny (model prog w) A (tryCompare (.ref ix) "__ne__" rt) (fun r s' => ∃ v, r = some v ∧ Q v s') E st := by
    unfold tryCompare callSpecialIfBound? bindSpecialIfBound?
    refine wpAny_bind (wpAny_holding (wpAny_bind (wpAny_bind (wpAny_bind (ty.here ((looks_findIn KI hne).here ?_))))))
    refine wpAny_bind (wpAny_askSetting (wpAny_ite ?_))
    have fin : wpAny (model prog w) A (call (.builtin "object.__ne__") ([.ref ix] ++ [rt]) >>= fun v => pure (some v)) (fun r s' => wpAny (model prog w) A (match r with | some Value.notImplemented | none => pure none | some v => pure (some v)) (fun r s' => ∃ v, r = some v ∧ Q v s') E s') E st :=
      wpAny_bind (wpAny_mono (wpAny_call inner) (fun v s' hv => by
        obtain ⟨⟨b, rfl⟩, hq⟩ := hv
        exact wpAny_pure (wpAny_pure ⟨_, rfl, hq⟩)) fun _ _ z => z)
    split
    · exact wpAny_bind (wpAny_pure (wpAny_pure (by exact fin)))
    · exact wpAny_tryCatch (wpAny_bind (wpAny_pure (wpAny_pure (by exact fin))))
  unfold richCompare
  simp only [oneThing_ref]
  refine wpAny_holding (wpAny_bind (wpAny_cRoomFor (by omega) ?_))
  refine wpAny_bind (ty.here (wpAny_bind (hty.here ?_)))
  split
  · rename_i dif
    have lower : subIn K tr (.ref ca) = some false := by
      rcases Bool.or_eq_true_iff.mp nf with z | z
      · rw [beq_iff_eq.mp z] at dif; simp at dif
      · exact beq_iff_eq.mp z
    refine wpAny_bind ((looks_subIn KI lower).here ?_)
    simp only [Bool.false_eq_true, if_false]
    refine wpAny_bind (wpAny_mono one (fun r s' back => ?_) fun _ _ z => z)
    obtain ⟨v, rfl, done⟩ := back
    exact wpAny_pure done
  · refine wpAny_bind (wpAny_pure ?_)
    simp only [Bool.false_eq_true, if_false]
    refine wpAny_bind (wpAny_mono one (fun r s' back => ?_) fun _ _ z => z)
    obtain ⟨v, rfl, done⟩ := back
    exact wpAny_pure done
end
end Lw

namespace Lw
open PySem PySem.Spec PyProof.Rows L2

/-! ### == and != on own instances, any value on the right -/
def okE (cs : List Str) (e : D) (S : Sto) : Prop := match tyD S e with
  | some (.b _) => True
  | some (.o k) => k ∈ cs
  | none => False
def mEqO (cn : Str) (cs : List Str) (u : Spec) (a b : ME) : ME := fun sd S q x => a sd S (fun d S1 => b sd S1 (fun e S2 => isIns cn d S2 fun _ => okE cs e S2 ∧ u [d, e] S2 q x) x) x
def mNeO (cn : Str) (cs : List Str) (u : Spec) (a b : ME) : ME := fun sd S q x => a sd S (fun d S1 => b sd S1 (fun e S2 => isIns cn d S2 fun _ => okE cs e S2 ∧ u [d, e] S2 (fun r S3 => match r with
  | .bl k => q (.bl (!k)) S3
  | _ => False) noQ) x) x
structure EqF (K : PySem.W.Frag) (mg : Mg) (C : Addr) (cs : List Str) : Prop where
  bt : ∀ T ∈ kinds, PySem.W.notFirst K C (.type T) = true
  ow : ∀ k ∈ cs, ∀ Ck, mg k = some (.ref Ck) → PySem.W.notFirst K C (.ref Ck) = true
structure NeF (K : PySem.W.Frag) (C : Addr) : Prop where
  ne : PySem.W.findIn K (.ref C) "__ne__" = some (some (.builtin "object.__ne__"))
  ob : PySem.W.subIn K (.ref C) (.type "object") = some true
def xEqF (cs : List Str) (y : Str) : Xf := fun K => (kinds.all fun T => PySem.W.notFirst K (He.ga K y) (.type T)) && cs.all fun k => PySem.W.notFirst K (He.ga K y) (.ref (He.ga K k))
theorem xEqF_ok {K : PySem.W.Frag} {mg : Mg} {cs : List Str} {y : Str} (h : xEqF cs y K = true) (hg : ∀ k ∈ cs, mg k = some (.ref (He.ga K k))) : EqF K mg (He.ga K y) cs := by
  obtain ⟨h1, h2⟩ := He.ba h
  exact ⟨fun T hT => List.all_eq_true.mp h1 T hT, fun k hk C hC => by
    rw [hg k hk] at hC; cases hC
    exact List.all_eq_true.mp h2 k hk⟩
def xNeF (y : Str) : Xf := fun K => He.eqO (PySem.W.findIn K (.ref (He.ga K y)) "__ne__") (some (some (.builtin "object.__ne__"))) && decide (PySem.W.subIn K (.ref (He.ga K y)) (.type "object") = some true)
theorem xNeF_ok {K : PySem.W.Frag} {y : Str} (h : xNeF y K = true) : NeF K (He.ga K y) := by
  obtain ⟨h1, h2⟩ := He.ba h
  exact ⟨He.eqO_ok h1, of_decide_eq_true h2⟩
section
variable {X : Cx} {c : Cn} {m ma mb : ME} {a b e o : Expr} {es : List Expr} {mr : MA} {p pos : Pos} {k : Nat} {f C : Addr} {u : Spec} {cn : Str} {cs : List Str}
/-- the right side's type may not come first -/
theorem right_ok {pins : List (Addr × Obj)} {σ : L2.St} {H : Hp} {s : Shared} {r : List Addr} {S : Sto} {e : D} {wx : V} {w : Value} (hK : c.K = X.K) (hm : c.mg = X.mg) (O : Owns X.K X.mg cs) (E : EqF X.K X.mg C cs) (I : Inv X pins σ H s) (ry : RelV wx w) (sm : c.Sm r H S) (rd : c.Rd r H e wx) (ok : okE cs e S) :
    ∃ t, PySem.W.Looks (model X.prog X.w) s.heap (typeOf w) t ∧ PySem.W.notFirst X.K C t = true := by
  unfold okE at ok
  cases et : tyD S e with
  | none => rw [et] at ok; exact ok.elim
  | some kd =>
    rw [et] at ok
    cases kd with
    | b T =>
      have tx := tyB_of sm rd et
      rw [hK] at tx
      obtain ⟨P, Z, pp, _⟩ := kit_of I ry tx
      exact ⟨_, Z.ty _ _ I.kIn pp, E.bt T (tyB_kind et)⟩
    | o k' =>
      obtain ⟨Ck, hC, oc⟩ := O.at_ k' ok
      have tx := tyO_of sm rd et (by rw [hm]; exact hC) (by rw [hK]; exact oc)
      rw [hK] at tx
      obtain ⟨P, Z, pp, _⟩ := kit_of I ry tx
      exact ⟨_, Z.ty _ _ I.kIn pp, E.ow k' ok Ck hC⟩
/-- the callee one room deeper, with no way out but its value -/
theorem fn_in1 (F : Fn X k f u []) (hc : CallOk X c (k + 1)) {pins : List (Addr × Obj)} {σ : L2.St} {H : Hp} {s : Shared} {Q : VK} {us : List Value} {vs : List V} {r : List Addr} {S : Sto} {dl : List D} {q : QD} (I : Inv X pins σ H s) (rv : Vals vs us)
    (sm : c.Sm r H S) (rd : c.Rs r H dl vs) (h : u dl S q noQ) (g : GoV c r H q Q) : wpAny (model X.prog X.w) X.A.in1 (call (.ref f) us) (EP X pins σ Q) X.xe s := by
  obtain ⟨fd, ps, dvs, ds, FF, hb, hd, hdd⟩ := F.ex
  have h' : u (dl ++ []) S q noQ := by rw [List.append_nil]; exact h
  have sp := call_of (c := ⟨c.K, c.mg, c.P, c.st, fun _ _ _ _ => False⟩) (s := σ) hc.K hc.mg hdd sm rd h' g (fun e S' r' H' cls dd h _ _ _ => h.elim)
  have r2 : Vals (vs ++ dvs) (us ++ ds) := rv.append hd
  have hl : (us ++ ds).length = ps.length := r2.length.symm.trans (FF.len _ _ _ _ sp)
  refine wpAny_call (codeAny_mono (FF.run X.A.in1 X.stack s H ⟨us, []⟩ _ _ Q (fun _ _ _ => False) hc.room.in1 hc.gd I.env0.in1 (hb s us I.kIn hl) r2 sp) fun rs s' hq => ?_)
  cases rs with
  | error er =>
    obtain ⟨_, _, _, _, _, _, _, _, _, _, _, _, z⟩ := hq
    exact z.elim
  | ok fl =>
    cases fl with
    | ret uv => exact I.after hq
    | next => exact hq.elim
    | brk => exact hq.elim
    | cont => exact hq.elim
/-- both sides walked -/
theorem two_run {pins : List (Addr × Obj)} {σ : L2.St} {H : Hp} {s : Shared} {Q : VK} {op : Value → Value → Sem Value} {K3 : D → D → Sto → QD → QX → Prop} (ho : PE X a (tE c ma)) (hb : PE X b (tE c mb)) (I : Inv X pins σ H s)
    (h : tE c (fun sd S q x => ma sd S (fun d S1 => mb sd S1 (fun e S2 => isIns cn d S2 fun _ => okE cs e S2 ∧ K3 d e S2 q x) x) x) σ H Q) (hmg : c.mg = X.mg) (hC : X.mg cn = some (.ref C))
    (go : ∀ s1 x (od : Obj × Obj) w wx H1 r S d e q xx, Inv X pins σ H1 s1 → PySem.W.InstAt s1.heap x od.1 C (some od.2) → RelV wx w → c.Sm r H1 S → c.Rd r H1 d (.ref x) → c.Rd r H1 e wx → okE cs e S → K3 d e S q xx → GoV c r H1 q Q → GoX c r H1 σ xx → wpAny (model X.prog X.w) X.A (op (.ref x) w) (EP X pins σ Q) X.xe s1) :
    wpAny (model X.prog X.w) X.A (eval a X.env) (fun v s₁ => wpAny (model X.prog X.w) X.A (eval b X.env) (fun u s₂ => wpAny (model X.prog X.w) X.A (op v u) (EP X pins σ Q) X.xe s₂) X.xe s₁) X.xe s := by
  obtain ⟨r, S, sd, q, xx, aa, hm, g, gx⟩ := h
  refine thn (ho.run pins s σ H (fun v H1 => ∃ r1 S1 d, At c r1 S1 sd σ H1 ∧ c.Rd r1 H1 d v ∧ Stp r H r1 H1 ∧ mb sd S1 (fun e S2 => isIns cn d S2 fun _ => okE cs e S2 ∧ K3 d e S2 q xx) xx) I ⟨r, S, sd, _, xx, aa, hm, fun d S1 r1 v H1 h1 t1 sm1 rd1 => ⟨r1, S1, d, aa.step t1 sm1, rd1, t1, h1⟩, gx⟩) fun v s1 ⟨vx, H1, I1, rx, r1, S1, d, a1, rd1, t1, h1⟩ => ?_
  refine thn (hb.run pins s1 σ H1 (fun w H2 => ∃ r2 S2 e, c.Sm r2 H2 S2 ∧ c.Rd r2 H2 e w ∧ Stp r1 H1 r2 H2 ∧ isIns cn d S2 fun _ => okE cs e S2 ∧ K3 d e S2 q xx) I1 ⟨r1, S1, sd, _, xx, a1, h1, fun e S2 r2 w H2 h2 t2 sm2 rd2 => ⟨r2, S2, e, sm2, rd2, t2, h2⟩, gx.step t1⟩) fun w s2 ⟨wx, H2, I2, ry, r2, S2, e, sm2, rd2, t2, h2⟩ => ?_
  obtain ⟨i, fs, x, dx, vs, rfl, rfl, _, _, e1, _, _, ok, hu⟩ := isIns_of (C := C) h2 sm2 (rd1.mono t2) (by rw [hmg]; exact hC)
  obtain rfl : v = Value.ref x := rx
  obtain ⟨od, J⟩ := inst_of I2 e1
  have t12 := t1.trans t2
  exact go s2 x ⟨_, od⟩ w wx H2 r2 S2 _ e q xx I2 J ry sm2 (rd1.mono t2) rd2 ok hu (g.step t12) (gx.step t12)
theorem me_eqO (O : OpF X cn "__eq__" C f u k) (Ow : Owns X.K X.mg cs) (E : EqF X.K X.mg C cs) (hc : CallOk X c k) (ha : PE X a (tE c ma)) (hb : PE X b (tE c mb)) : PE X (.Compare a [.Eq] [b] pos) (tE c (mEqO cn cs u ma mb)) := by
  refine ⟨fun pins s σ H Q I h => ?_⟩
  refine wpAny_Compare1 ?_ (nomark _)
  refine two_run (K3 := fun d e S q x => u [d, e] S q x) (op := compareOp .Eq) ha hb I h hc.mg O.mg ?_
  intro s1 x od w wx H1 r S d e q xx I1 J ry sm rd re ok hu g gx
  have hu' : u ([d, e] ++ []) S q xx := hu
  clear hu h
  show wpAny (model X.prog X.w) X.A (richCompare .Eq (.ref x) w) (EP X pins σ Q) X.xe s1
  obtain ⟨mm, fr⟩ := I1.fr
  obtain ⟨t, L, nf⟩ := right_ok hc.K hc.mg Ow E I1 ry sm re ok
  have z : wpAny (model X.prog X.w) X.A (call (.ref f) [.ref x, w]) (EP X pins σ Q) X.xe s1 := fn_run (us := [.ref x, w]) (vs := [.ref x, wx]) (dl := [d, e]) O.F hc I1 (.cons rfl (.cons ry .nil)) sm (.cons rd (.cons re .nil)) hu' g gx
  have z2 : wpAny (model X.prog X.w) X.A (call (.ref f) [.ref x, w]) (PySem.W.CmpBack (EP X pins σ Q)) X.xe s1 := wpAny_mono z (fun v s' h => back_of h) fun _ _ h => h
  exact PySem.W.cmp_K (op := .Eq) hc.u0 fr I1.ok.mod.kin J L nf O.at_ O.fn z2
theorem me_neO (O : OpF X cn "__eq__" C f u k) (Ow : Owns X.K X.mg cs) (E : EqF X.K X.mg C cs) (N : NeF X.K C) (hc : CallOk X c (k + 1)) (ha : PE X a (tE c ma)) (hb : PE X b (tE c mb)) : PE X (.Compare a [.NotEq] [b] pos) (tE c (mNeO cn cs u ma mb)) := by
  refine ⟨fun pins s σ H Q I h => ?_⟩
  refine wpAny_Compare1 ?_ (nomark _)
  refine two_run (K3 := fun d e S q x => u [d, e] S (fun r S3 => match r with
      | .bl k => q (.bl (!k)) S3
      | _ => False) noQ) (op := compareOp .NotEq) ha hb I h hc.mg O.mg ?_
  intro s1 x od w wx H1 r S d e q xx I1 J ry sm rd re ok hu g gx
  have hu' : u [d, e] S (fun r S3 => match r with
      | .bl k => q (.bl (!k)) S3
      | _ => False) noQ := hu
  clear hu h
  show wpAny (model X.prog X.w) X.A (richCompare .NotEq (.ref x) w) (EP X pins σ Q) X.xe s1
  obtain ⟨mm, fr⟩ := I1.fr
  obtain ⟨t, L, nf⟩ := right_ok hc.K hc.mg Ow E I1 ry sm re ok
  have gq : GoV c r H1 (fun r S3 => match r with
      | .bl k => q (.bl (!k)) S3
      | _ => False) (fun v H' => ∃ b, v = .bl b ∧ Q (.bl (!b)) H') := fun d' S' r' v H' hq t' sm' rd' => by
    cases rd' with
    | bl b => exact ⟨b, rfl, g _ S' r' _ H' hq t' sm' (.bl _)⟩
    | _ => exact hq.elim
  have z : wpAny (model X.prog X.w) X.A.in1 (call (.ref f) [.ref x, w]) (EP X pins σ (fun v H' => ∃ b, v = .bl b ∧ Q (.bl (!b)) H')) X.xe s1 := fn_in1 (us := [.ref x, w]) (vs := [.ref x, wx]) (dl := [d, e]) O.F hc I1 (.cons rfl (.cons ry .nil)) sm (.cons rd (.cons re .nil)) hu' gq
  have room : X.A.units + 1 < cLine := by have := hc.room.un; omega
  refine ne_own room fr I1.ok.mod.kin J L nf N.ne N.ob O.at_ O.fn (wpAny_mono z (fun v s' h => ?_) fun _ _ h => h)
  obtain ⟨vv, H', I', rv, b, rfl, q'⟩ := h
  obtain rfl : v = Value.bool b := rv
  exact ⟨b, rfl, .bl (!b), H', I', rfl, q'⟩
end
end Lw

namespace Lw
open PySem PySem.Spec PyProof.Rows L2

/-! ### a place with no way out -/
abbrev Cn.nw (c : Cn) : Cn := ⟨c.K, c.mg, c.P, c.st, fun _ _ _ _ => False⟩
theorem CallOk.nw {X : Cx} {c : Cn} {k : Nat} (h : CallOk X c k) : CallOk X c.nw k := ⟨takes0, h.room, h.gd, h.K, h.mg⟩
/-- within a comprehension -/
theorem CallOk.blk {X : Cx} {c : Cn} {k : Nat} (h : CallOk X c k) (s : Shared) (H : Hp) (scope : Scope) (env : Env) (fp : List Addr) : CallOk (X.blk s H scope env fp) (Cn.blk c) k := ⟨takes0, h.room, h.gd, h.K, h.mg⟩
theorem goX_nw {c : Cn} {r : List Addr} {H : Hp} {s : L2.St} : GoX c.nw r H s noQ := fun _ _ _ _ _ _ h _ _ _ => h.elim
section
variable {X : Cx} {c : Cn} {m ma mb : ME} {a b e o : Expr} {es : List Expr} {mr : MA} {p pos apos cpos : Pos} {k : Nat} {f C : Addr} {u : Spec} {dd : List D} {cn : Str} {cs : List Str}
/-- the callee one room deeper -/
theorem fn_in1X (F : Fn X k f u dd) (hc : CallOk X c (k + 1)) {pins : List (Addr × Obj)} {σ : L2.St} {H : Hp} {s : Shared} {Q : VK} {us : List Value} {vs : List V} {r : List Addr} {S : Sto} {dl : List D} {q : QD} {xx : QX} (I : Inv X pins σ H s) (rv : Vals vs us)
    (sm : c.Sm r H S) (rd : c.Rs r H dl vs) (h : u (dl ++ dd) S q xx) (g : GoV c r H q Q) (gx : GoX c r H σ xx) : wpAny (model X.prog X.w) X.A.in1 (call (.ref f) us) (EP X pins σ Q) X.xe s := by
  obtain ⟨fd, ps, dvs, ds, FF, hb, hd, hdd⟩ := F.ex
  have sp := call_of hc.K hc.mg hdd sm rd h g gx
  have r2 : Vals (vs ++ dvs) (us ++ ds) := rv.append hd
  have hl : (us ++ ds).length = ps.length := r2.length.symm.trans (FF.len _ _ _ _ sp)
  refine wpAny_call (codeAny_mono (FF.run X.A.in1 X.stack s H ⟨us, []⟩ _ _ Q (WE c.W σ) hc.room.in1 hc.gd I.env0.in1 (hb s us I.kIn hl) r2 sp) fun rs s' hq => ?_)
  cases rs with
  | error er => exact passAt hc.tk σ pins H s er s' I hq
  | ok fl =>
    cases fl with
    | ret uv => exact I.after hq
    | next => exact hq.elim
    | brk => exact hq.elim
    | cont => exact hq.elim
theorem fn_in2X (F : Fn X k f u dd) (hc : CallOk X c (k + 2)) {pins : List (Addr × Obj)} {σ : L2.St} {H : Hp} {s : Shared} {Q : VK} {us : List Value} {vs : List V} {r : List Addr} {S : Sto} {dl : List D} {q : QD} {xx : QX} (I : Inv X pins σ H s) (rv : Vals vs us)
    (sm : c.Sm r H S) (rd : c.Rs r H dl vs) (h : u (dl ++ dd) S q xx) (g : GoV c r H q Q) (gx : GoX c r H σ xx) : wpAny (model X.prog X.w) X.A.in1.in1 (call (.ref f) us) (EP X pins σ Q) X.xe s := by
  obtain ⟨fd, ps, dvs, ds, FF, hb, hd, hdd⟩ := F.ex
  have sp := call_of hc.K hc.mg hdd sm rd h g gx
  have r2 : Vals (vs ++ dvs) (us ++ ds) := rv.append hd
  have hl : (us ++ ds).length = ps.length := r2.length.symm.trans (FF.len _ _ _ _ sp)
  refine wpAny_call (codeAny_mono (FF.run X.A.in1.in1 X.stack s H ⟨us, []⟩ _ _ Q (WE c.W σ) hc.room.in1.in1 hc.gd I.env0.in1.in1 (hb s us I.kIn hl) r2 sp) fun rs s' hq => ?_)
  cases rs with
  | error er => exact passAt hc.tk σ pins H s er s' I hq
  | ok fl =>
    cases fl with
    | ret uv => exact I.after hq
    | next => exact hq.elim
    | brk => exact hq.elim
    | cont => exact hq.elim
/-! ### len(o) -/
def fLenO (cn : Str) (u : Spec) : MFn := fun ds S q => match ds with
  | [d] => isIns cn d S fun _ => u [d] S (fun r S3 => match r with
    | .int n => (0 ≤ n ∧ n < 2 ^ 63) ∧ q (.int n) S3
    | _ => False) noQ
  | _ => False
/-- what stands of a built-in function over trees -/
abbrev rFn (c : Cn) (g : MFn) (xs : List V) (H : Hp) (Q : VK) : Prop := ∃ r S ds q, c.Sm r H S ∧ c.Rs r H ds xs ∧ g ds S q ∧ GoV c r H q Q
theorem cm_lenO (O : OpF X cn "__len__" C f u k) (hc : CallOk X c (k + 1)) : CallM X c (.builtin "len") (fLenO cn u) := by
  refine ⟨rFn c (fLenO cn u), fun pins s σ H xs us Q I rv h => ?_, fun _ _ _ h => h⟩
  obtain ⟨r, S, ds, q, sm, rd, h, g⟩ := h
  unfold fLenO at h
  split at h
  · obtain ⟨v, rfl, r1⟩ := rs1 rd
    obtain ⟨i, fs, x, dx, vs, rfl, rfl, _, _, e1, _, _, hu⟩ := isIns_of (C := C) h sm r1 (by rw [hc.mg]; exact O.mg)
    obtain rfl := Vals.ref1 rv
    obtain ⟨od, J⟩ := inst_of I e1
    obtain ⟨mm, fr⟩ := I.fr
    have z : wpAny (model X.prog X.w) X.A.in1 (call (.ref f) [.ref x]) (EP X pins σ (fun v H' => ∃ n : Int, v = .int n ∧ (0 ≤ n ∧ n < 2 ^ 63) ∧ Q (.int n) H')) X.xe s :=
      fn_in1X (us := [.ref x]) (vs := [.ref x]) (dl := [.ref i]) O.F hc.nw I (.cons rfl .nil) sm (.cons r1 .nil) hu (fun d' S' r' v H' hq t' sm' rd' => by
        cases rd' with
        | int n => exact ⟨n, rfl, hq.1, g _ S' r' _ H' hq.2 t' sm' (.int _)⟩
        | _ => exact hq.elim) goX_nw
    refine PySem.W.len_K fr I.ok.mod.kin J O.at_ O.fn (wpAny_mono z (fun v s' h => ?_) fun _ _ h => h)
    obtain ⟨vv, H', I', rv, n, rfl, hb, q'⟩ := h
    obtain ⟨t, rfl⟩ := rv
    exact ⟨hb, .int n, H', I'.tok _, ⟨_, rfl⟩, q'⟩
  · exact h.elim
/-! ### bool(o), the truth of o -/
def fBoolO (cn : Str) (u : Spec) : MFn := fun ds S q => match ds with
  | [d] => isIns cn d S fun _ => u [d] S (fun r S3 => match r with
    | .bl b => q (.bl b) S3
    | _ => False) noQ
  | _ => False
theorem bool_new_own {prog : Program} {w : World} (x : Addr) : MeetsIn prog w (Builtin.«bool.__new__» ⟨[.type "bool", .ref x], []⟩) (fun A R s => wpAny (model prog w) A.in1 (truthy (.ref x)) (fun b s' => R (.ok (.ret (.bool b))) s') (fun e s' => R (.error e) s') s) :=
  .of_wp fun A R s hs => by
    have f1 := F.conv_sub_bool
    obtain ⟨hp, g, d, tk, os⟩ := s
    repeat (any_goals (first | assumption | (with_reducible refine wpAny_bind (wpAny_mono hs (fun b s' h => ?_) fun _ _ h => h)) | wp_step))
    all_goals first | exact ⟨_, rfl, by assumption⟩ | skip
theorem cm_boolO (O : OpF X cn "__bool__" C f u k) (hc : CallOk X c (k + 2)) : CallM X c (.type "bool") (fBoolO cn u) := by
  refine ⟨rFn c (fBoolO cn u), fun pins s σ H xs us Q I rv h => ?_, fun _ _ _ h => h⟩
  obtain ⟨r, S, ds, q, sm, rd, h, g⟩ := h
  unfold fBoolO at h
  split at h
  · obtain ⟨v, rfl, r1⟩ := rs1 rd
    obtain ⟨i, fs, x, dx, vs, rfl, rfl, _, _, e1, _, _, hu⟩ := isIns_of (C := C) h sm r1 (by rw [hc.mg]; exact O.mg)
    obtain rfl := Vals.ref1 rv
    obtain ⟨od, J⟩ := inst_of I e1
    obtain ⟨mm, fr⟩ := I.fr
    have z : wpAny (model X.prog X.w) X.A.in1.in1 (call (.ref f) [.ref x]) (EP X pins σ (fun v H' => ∃ b, v = .bl b ∧ Q (.bl b) H')) X.xe s :=
      fn_in2X (us := [.ref x]) (vs := [.ref x]) (dl := [.ref i]) O.F hc.nw I (.cons rfl .nil) sm (.cons r1 .nil) hu (fun d' S' r' v H' hq t' sm' rd' => by
        cases rd' with
        | bl b => exact ⟨b, rfl, g _ S' r' _ H' hq t' sm' (.bl _)⟩
        | _ => exact hq.elim) goX_nw
    refine callType_newIn F.called_bool F.newNe_bool (F.typeCall_bool_1 _) (F.newCall_bool_1 _) (fun obj => F.args_object_init_2 obj _) F.entry_bool_new (bool_new_own x) ?_
    refine PySem.W.truthy_K fr I.ok.mod.kin J O.at_ O.fn (wpAny_mono z (fun v s' h => ?_) fun _ _ h => h)
    obtain ⟨vv, H', I', rv, b, rfl, q'⟩ := h
    obtain rfl : v = Value.bool b := rv
    exact ⟨rfl, .bl b, H', I', rfl, q'⟩
  · exact h.elim
def mtTO (cn : Str) (u : Spec) (m : ME) : MT := fun sd S q x => m sd S (fun d S1 => isIns cn d S1 fun _ => u [d] S1 (fun r S3 => match r with
    | .bl b => q b S3
    | _ => False) noQ) x
theorem mt_truO (O : OpF X cn "__bool__" C f u k) (hc : CallOk X c k) (ha : PE X a (tE c m)) (he : ∀ whole, isTrue a X.env whole = (do let v ← whole; standAt a.pos; holding [v] (truthy v)) := by intro _; rfl) : PT X a (tT c (mtTO cn u m)) := by
  refine ⟨fun pins s σ H Q I h => ?_⟩
  obtain ⟨r, S, sd, q, xx, aa, hm, g, gx⟩ := h
  refine isTrue_plain (thn (ha.run pins s σ H (fun v H1 => ∃ r1 S1 d, c.Sm r1 H1 S1 ∧ c.Rd r1 H1 d v ∧ Stp r H r1 H1 ∧ isIns cn d S1 fun _ => u [d] S1 (fun r S3 => match r with
    | .bl b => q b S3
    | _ => False) noQ) I ⟨r, S, sd, _, xx, aa, hm, fun d S1 r1 v H1 h1 t1 sm1 rd1 => ⟨r1, S1, d, sm1, rd1, t1, h1⟩, gx⟩) fun v s1 ⟨vx, H1, I1, rx, r1, S1, d, sm, rd, t, h1⟩ => ?_) (he _)
  obtain ⟨i, fs, x, dx, vs, rfl, rfl, _, _, e1, _, _, hu⟩ := isIns_of (C := C) h1 sm rd (by rw [hc.mg]; exact O.mg)
  obtain rfl : v = Value.ref x := rx
  obtain ⟨od, J⟩ := inst_of I1 e1
  obtain ⟨mm, fr⟩ := I1.fr
  have z : wpAny (model X.prog X.w) X.A (call (.ref f) [.ref x]) (EP X pins σ (fun v H' => ∃ b, v = .bl b ∧ Q b H')) X.xe s1 :=
    fn_run (us := [.ref x]) (vs := [.ref x]) (dl := [.ref i]) O.F hc.nw I1 (.cons rfl .nil) sm (.cons rd .nil) hu (fun d' S' r' v H' hq t' sm' rd' => by
      cases rd' with
      | bl b => exact ⟨b, rfl, g _ S' r' H' hq (t.trans t') sm'⟩
      | _ => exact hq.elim) goX_nw
  refine PySem.W.truthy_K fr I1.ok.mod.kin J O.at_ O.fn (wpAny_mono z (fun v s' h => ?_) fun _ _ h => h)
  obtain ⟨vv, H', I', rv, b, rfl, q'⟩ := h
  obtain rfl : v = Value.bool b := rv
  exact ⟨H', I', q'⟩
/-- not o, as a value -/
theorem me_notO (O : OpF X cn "__bool__" C f u k) (hc : CallOk X c k) (ha : PE X a (tE c m)) : PE X (.UnaryOp .Not a pos) (tE c (mNotB (mtTO cn u m))) := by
  refine ⟨fun pins s σ H Q I h => UnaryOp_ ?_⟩
  obtain ⟨r, S, sd, q, xx, aa, hm, g, gx⟩ := h
  refine thn (ha.run pins s σ H (fun v H1 => ∃ r1 S1 d, c.Sm r1 H1 S1 ∧ c.Rd r1 H1 d v ∧ Stp r H r1 H1 ∧ isIns cn d S1 fun _ => u [d] S1 (fun r S3 => match r with
    | .bl b => q (.bl (!b)) S3
    | _ => False) noQ) I ⟨r, S, sd, _, xx, aa, hm, fun d S1 r1 v H1 h1 t1 sm1 rd1 => ⟨r1, S1, d, sm1, rd1, t1, h1⟩, gx⟩) fun v s1 ⟨vx, H1, I1, rx, r1, S1, d, sm, rd, t, h1⟩ => ?_
  obtain ⟨i, fs, x, dx, vs, rfl, rfl, _, _, e1, _, _, hu⟩ := isIns_of (C := C) h1 sm rd (by rw [hc.mg]; exact O.mg)
  obtain rfl : v = Value.ref x := rx
  obtain ⟨od, J⟩ := inst_of I1 e1
  obtain ⟨mm, fr⟩ := I1.fr
  have z : wpAny (model X.prog X.w) X.A (call (.ref f) [.ref x]) (EP X pins σ (fun v H' => ∃ b, v = .bl b ∧ Q (.bl (!b)) H')) X.xe s1 :=
    fn_run (us := [.ref x]) (vs := [.ref x]) (dl := [.ref i]) O.F hc.nw I1 (.cons rfl .nil) sm (.cons rd .nil) hu (fun d' S' r' v H' hq t' sm' rd' => by
      cases rd' with
      | bl b => exact ⟨b, rfl, g _ S' r' _ H' hq (t.trans t') sm' (.bl _)⟩
      | _ => exact hq.elim) goX_nw
  refine PyProof.Rows.not_of (PySem.W.truthy_K fr I1.ok.mod.kin J O.at_ O.fn (wpAny_mono z (fun v s' h => ?_) fun _ _ h => h))
  obtain ⟨vv, H', I', rv, b, rfl, q'⟩ := h
  obtain rfl : v = Value.bool b := rv
  exact ⟨.bl (!b), H', I', rfl, q'⟩
/-! ### x in o, x not in o -/
def mInO (cn : Str) (u : Spec) : MOp := fun d e S q => isIns cn e S fun _ => u [e, d] S (fun r S3 => match r with
    | .bl b => q (.bl b) S3
    | _ => False) noQ
def mNotInO (cn : Str) (u : Spec) : MOp := fun d e S q => isIns cn e S fun _ => u [e, d] S (fun r S3 => match r with
    | .bl b => q (.bl (!b)) S3
    | _ => False) noQ
theorem om_inO (O : OpF X cn "__contains__" C f u k) (hc : CallOk X c k) : OpM X c (compareOp .In) (mInO cn u) := by
  refine ⟨rOp c (mInO cn u), fun pins s σ H x y v w Q I rx ry h => ?_, fun _ _ _ _ h => h⟩
  obtain ⟨r, S, d, e, q, sm, rd, re, h, g⟩ := h
  obtain ⟨i, fs, x', dx, vs, rfl, rfl, _, _, e1, _, _, hu⟩ := isIns_of (C := C) h sm re (by rw [hc.mg]; exact O.mg)
  obtain rfl : w = Value.ref x' := ry
  obtain ⟨od, J⟩ := inst_of I e1
  obtain ⟨mm, fr⟩ := I.fr
  have z : wpAny (model X.prog X.w) X.A (call (.ref f) [.ref x', v]) (EP X pins σ (fun v H' => ∃ b, v = .bl b ∧ Q (.bl b) H')) X.xe s :=
    fn_run (us := [.ref x', v]) (vs := [.ref x', x]) (dl := [.ref i, d]) O.F hc.nw I (.cons rfl (.cons rx .nil)) sm (.cons re (.cons rd .nil)) hu (fun d' S' r' v H' hq t' sm' rd' => by
      cases rd' with
      | bl b => exact ⟨b, rfl, g _ S' r' _ H' hq t' sm' (.bl _)⟩
      | _ => exact hq.elim) goX_nw
  refine PySem.W.in_K fr I.ok.mod.kin J O.at_ O.fn (wpAny_mono z (fun v s' h => ?_) fun _ _ h => h)
  obtain ⟨vv, H', I', rv, b, rfl, q'⟩ := h
  obtain rfl : v = Value.bool b := rv
  exact wpAny_truthy_bool ⟨.bl b, H', I', rfl, q'⟩
theorem om_notInO (O : OpF X cn "__contains__" C f u k) (hc : CallOk X c k) : OpM X c (compareOp .NotIn) (mNotInO cn u) := by
  refine ⟨rOp c (mNotInO cn u), fun pins s σ H x y v w Q I rx ry h => ?_, fun _ _ _ _ h => h⟩
  obtain ⟨r, S, d, e, q, sm, rd, re, h, g⟩ := h
  obtain ⟨i, fs, x', dx, vs, rfl, rfl, _, _, e1, _, _, hu⟩ := isIns_of (C := C) h sm re (by rw [hc.mg]; exact O.mg)
  obtain rfl : w = Value.ref x' := ry
  obtain ⟨od, J⟩ := inst_of I e1
  obtain ⟨mm, fr⟩ := I.fr
  have z : wpAny (model X.prog X.w) X.A (call (.ref f) [.ref x', v]) (EP X pins σ (fun v H' => ∃ b, v = .bl b ∧ Q (.bl (!b)) H')) X.xe s :=
    fn_run (us := [.ref x', v]) (vs := [.ref x', x]) (dl := [.ref i, d]) O.F hc.nw I (.cons rfl (.cons rx .nil)) sm (.cons re (.cons rd .nil)) hu (fun d' S' r' v H' hq t' sm' rd' => by
      cases rd' with
      | bl b => exact ⟨b, rfl, g _ S' r' _ H' hq t' sm' (.bl _)⟩
      | _ => exact hq.elim) goX_nw
  refine PySem.W.notIn_K fr I.ok.mod.kin J O.at_ O.fn (wpAny_mono z (fun v s' h => ?_) fun _ _ h => h)
  obtain ⟨vv, H', I', rv, b, rfl, q'⟩ := h
  obtain rfl : v = Value.bool b := rv
  exact wpAny_truthy_bool ⟨.bl (!b), H', I', rfl, q'⟩
/-! ### o[i] by an own __getitem__ -/
def mGetO (cn : Str) (u : Spec) (a b : ME) : ME := fun sd S q x => a sd S (fun d S1 => b sd S1 (fun e S2 => isIns cn d S2 fun _ => u [d, e] S2 q x) x) x
theorem me_getO (O : OpF X cn "__getitem__" C f u k) (hc : CallOk X c (k + 1)) (ha : PE X a (tE c ma)) (hb : PE X b (tE c mb)) (hsl : ∀ x i, subscripted b true (.ref x) i = runValue (.builtin "lifetime.subscript" ⟨[.ref x, i], []⟩) := by intro _ _; with_unfolding_all rfl) : PE X (.Subscript a b pos) (tE c (mGetO cn u ma mb)) := by
  refine ⟨fun pins s σ H Q I h => Subscript_ ?_⟩
  obtain ⟨r, S, sd, q, xx, aa, hm, g, gx⟩ := h
  refine thn (ha.run pins s σ H (fun v H1 => ∃ r1 S1 d, At c r1 S1 sd σ H1 ∧ c.Rd r1 H1 d v ∧ Stp r H r1 H1 ∧ mb sd S1 (fun e S2 => isIns cn d S2 fun _ => u [d, e] S2 q xx) xx) I ⟨r, S, sd, _, xx, aa, hm, fun d S1 r1 v H1 h1 t1 sm1 rd1 => ⟨r1, S1, d, aa.step t1 sm1, rd1, t1, h1⟩, gx⟩) fun v s1 ⟨vx, H1, I1, rx, r1, S1, d, a1, rd1, t1, h1⟩ => ?_
  refine thn (hb.run pins s1 σ H1 (fun w H2 => ∃ r2 S2 e, c.Sm r2 H2 S2 ∧ c.Rd r2 H2 e w ∧ Stp r1 H1 r2 H2 ∧ isIns cn d S2 fun _ => u [d, e] S2 q xx) I1 ⟨r1, S1, sd, _, xx, a1, h1, fun e S2 r2 w H2 h2 t2 sm2 rd2 => ⟨r2, S2, e, sm2, rd2, t2, h2⟩, gx.step t1⟩) fun w s2 ⟨wx, H2, I2, ry, r2, S2, e, sm2, rd2, t2, h2⟩ => ?_
  obtain ⟨i, fs, x, dx, vs, rfl, rfl, _, _, e1, _, _, hu⟩ := isIns_of (C := C) h2 sm2 (rd1.mono t2) (by rw [hc.mg]; exact O.mg)
  obtain rfl : v = Value.ref x := rx
  obtain ⟨od, J⟩ := inst_of I2 e1
  obtain ⟨mm, fr⟩ := I2.fr
  have t12 := t1.trans t2
  exact PySem.W.sub_K fr I2.ok.mod.kin J O.at_ O.fi O.fn (fn_in1X (us := [.ref x, w]) (vs := [.ref x, wx]) (dl := [.ref i, e]) O.F hc I2 (.cons rfl (.cons ry .nil)) sm2 (.cons (rd1.mono t2) (.cons rd2 .nil)) hu (g.step t12) (gx.step t12)) (hsl _ _)
end
end Lw

namespace Lw
open PySem PySem.Spec PyProof.Rows L2

/-! ### methods of built-in types -/
abbrev MMt := D → List D → Sto → QD → Prop
/-- the receiver is of the built-in type T -/
def tyM (T : String) (d : D) (S : Sto) : Prop := match d with
  | .str _ => T = "str"
  | .ref n => T = "list" ∧ (seqO S n).isSome = true
  | _ => False
structure MtdM (X : Cx) (c : Cn) (id : String) (g : MMt) : Prop where
  ok : ∃ R, MtR X id R ∧ ∀ x xs H Q, (∃ r S d ds q, c.Sm r H S ∧ c.Rd r H d x ∧ c.Rs r H ds xs ∧ g d ds S q ∧ GoV c r H q Q) → R x xs H Q
def mBM (T : String) (g : MMt) (o : ME) (m : MA) : ME := fun sd S q x => o sd S (fun d S1 => tyM T d S1 ∧ m sd S1 (fun ds S2 => g d ds S2 q) x) x
section
variable {X : Cx} {c : Cn} {m ma mb mc : ME} {a b e o i : Expr} {es : List Expr} {mr : MA} {p pos apos cpos : Pos} {k : Nat} {f C : Addr} {u : Spec} {cn : Str} {T id : String} {name : Str} {g : MMt}
theorem tyM_ok {r : List Addr} {H : Hp} {S : Sto} {d : D} {v : V} (hK : c.K = X.K) (sm : c.Sm r H S) (rd : c.Rd r H d v) (h : tyM T d S) : tyV X.K T v H := by
  unfold tyM at h
  split at h
  · cases rd; exact h
  · rename_i n
    obtain ⟨h1, h2⟩ := h
    obtain ⟨ds, e⟩ := Option.isSome_iff_exists.mp h2
    obtain ⟨a, vs, rfl, _, h3, _⟩ := seq_of sm rd e
    exact .inl ⟨h1, vs, by rw [← hK]; exact h3⟩
  · exact h.elim
theorem me_bm (pa : PlainAttrs T) (slot : Slot T name id) (hty : typeOf (.builtin id) = pure (.type "method_descriptor")) (hm : MtdM X c id g) (hK : c.K = X.K) (ho : PE X o (tE c m)) (ha : PA X (e :: es) (tA c mr))
    (hbase : attributeBase o name X.env (eval o X.env) = eval o X.env := by rfl)
    (hfew : ((backTo cpos (starEach (e :: es) X.env)).all (fun x => !x.1) && (backToKw cpos (keywordEach [] X.env)).all (fun x => x.1.isSome)
      && decide ((e :: es).length + ([] : List Keyword).length + (if ([] : List Keyword).isEmpty then 0 else 1) < 30)) = true := by rfl)
    (hline : (apos.endLine == cpos.line) = true := by rfl) (hs : starEach (e :: es) X.env = (false, eval e X.env) :: starEach es X.env := by rfl) (hplain : (backTo cpos (starEach es X.env)).any (·.1) = false := by rfl) :
    PE X (.Call (.Attribute o name apos) (e :: es) [] cpos) (tE c (mBM T g m mr)) := by
  obtain ⟨R, hR, w⟩ := hm.ok
  refine weakE (pe_bm pa slot hty hR ho ha hbase hfew hline hs hplain) fun s H Q z => ?_
  obtain ⟨r, S, sd, q, x, a, hm', gv, gx⟩ := z
  refine ⟨r, S, sd, _, x, a, hm', fun d S1 r1 v H1 h1 t1 sm1 rd1 => ⟨tyM_ok hK sm1 rd1 h1.1, ?_⟩, gx⟩
  exact ⟨r1, S1, sd, _, x, a.step t1 sm1, h1.2, fun ds S2 r2 vs H2 h2 t2 sm2 rd2 => w _ _ _ _ ⟨r2, S2, d, ds, q, sm2, rd1.mono t2, rd2, h2, (gv.step t1).step t2⟩, gx.step t1⟩
theorem me_bm0 (pa : PlainAttrs T) (slot : Slot T name id) (hty : typeOf (.builtin id) = pure (.type "method_descriptor")) (hm : MtdM X c id g) (hK : c.K = X.K) (ho : PE X o (tE c m))
    (hbase : attributeBase o name X.env (eval o X.env) = eval o X.env := by rfl) (hline : (apos.endLine == cpos.line) = true := by rfl) : PE X (.Call (.Attribute o name apos) [] [] cpos) (tE c (mBM T g m maNil)) := by
  obtain ⟨R, hR, w⟩ := hm.ok
  refine weakE (pe_bm0 pa slot hty hR ho hbase hline) fun s H Q z => ?_
  obtain ⟨r, S, sd, q, x, a, hm', gv, gx⟩ := z
  refine ⟨r, S, sd, _, x, a, hm', fun d S1 r1 v H1 h1 t1 sm1 rd1 => ⟨tyM_ok hK sm1 rd1 h1.1, ?_⟩, gx⟩
  exact w _ _ _ _ ⟨r1, S1, d, [], q, sm1, rd1, .nil, h1.2, gv.step t1⟩
/-! lists -/
def gAppend : MMt := fun d ds S q => match d, ds with
  | .ref n, [y] => (match lstO S n with
    | some xs => xs.length < sizeLine ∧ q .non (S.set n (.lst (xs ++ [y])))
    | none => False)
  | _, _ => False
/-- a list that may be written -/
theorem wr_list {r : List Addr} {H : Hp} {S : Sto} {n : Nat} {a : Addr} {vs ws : List V} {ds : List D} (sm : c.Sm r H S) (er : r[n]? = some a) (eH : H a = some (.lst vs)) (rw' : c.Rs r H ds ws) :
    Stp r H r (upd H a (.lst ws)) ∧ c.Sm r (upd H a (.lst ws)) (S.set n (.lst ds)) := by
  have ha : a ∈ r := List.mem_iff_getElem?.mpr ⟨n, er⟩
  have nf : ∀ ob u, H a ≠ some (.frz ob u) := fun ob u z => by rw [eH] at z; cases z
  have t : Stp r H r (upd H a (.lst ws)) := Stp.write sm ha nf
  exact ⟨t, sm.write er nf (.lst upd_same (rw'.mono t))⟩
theorem mm_append : MtdM X c "list.append" gAppend := ⟨_, mt_append, fun x xs H Q z => by
  obtain ⟨r, S, d, ds, q, sm, rd, rs, h, g⟩ := z
  unfold gAppend at h
  split at h
  · rename_i n y
    split at h
    · rename_i ys ey
      obtain ⟨a, vs, rfl, er, eH, rv⟩ := lst_of sm rd ey
      obtain ⟨v, rfl, r1⟩ := rs1 rs
      have rw' : c.Rs r H (ys ++ [y]) (vs ++ [v]) := rv.append (.cons r1 .nil)
      obtain ⟨t, sm'⟩ := wr_list sm er eH rw'
      exact ⟨a, vs, v, rfl, rfl, eH, by rw [← rv.length]; exact h.1, g _ _ r _ _ h.2 t sm' .non⟩
    · exact h.elim
  · exact h.elim⟩
def gExtend : MMt := fun d ds S q => match d, ds with
  | .ref n, [.ref j] => (match lstO S n, lstO S j with
    | some xs, some ys => xs.length + ys.length ≤ sizeLine ∧ q .non (S.set n (.lst (xs ++ ys)))
    | _, _ => False)
  | _, _ => False
theorem mm_extend : MtdM X c "list.extend" gExtend := ⟨_, mt_extend, fun x xs H Q z => by
  obtain ⟨r, S, d, ds, q, sm, rd, rs, h, g⟩ := z
  unfold gExtend at h
  split at h
  · rename_i n j
    split at h
    · rename_i ys zs ey ez
      obtain ⟨a, vs, rfl, er, eH, rv⟩ := lst_of sm rd ey
      obtain ⟨v, rfl, r1⟩ := rs1 rs
      obtain ⟨b, ws, rfl, _, eH2, rw2⟩ := lst_of sm r1 ez
      have rw' : c.Rs r H (ys ++ zs) (vs ++ ws) := rv.append rw2
      obtain ⟨t, sm'⟩ := wr_list sm er eH rw'
      exact ⟨a, b, vs, ws, rfl, rfl, eH, eH2, by rw [← rv.length, ← rw2.length]; exact h.1, g _ _ r _ _ h.2 t sm' .non⟩
    · exact h.elim
  · exact h.elim⟩
theorem e_mBM {sd : Sg} {S : Sto} {q : QD} {x : QX} : mBM T g m mr sd S q x = m sd S (fun d S1 => tyM T d S1 ∧ mr sd S1 (fun ds S2 => g d ds S2 q) x) x := Eq.trans rfl rfl
theorem e_append {S : Sto} {q : QD} {n : Nat} {y : D} : gAppend (.ref n) [y] S q = (match lstO S n with
    | some xs => xs.length < sizeLine ∧ q .non (S.set n (.lst (xs ++ [y])))
    | none => False) := Eq.trans rfl rfl
theorem e_extend {S : Sto} {q : QD} {n j : Nat} : gExtend (.ref n) [.ref j] S q = (match lstO S n, lstO S j with
    | some xs, some ys => xs.length + ys.length ≤ sizeLine ∧ q .non (S.set n (.lst (xs ++ ys)))
    | _, _ => False) := Eq.trans rfl rfl
/-! ### a, b = a list -/
def gmUnl (n : Nat) (h : MGs) : MG := fun d sd S k => match d with
  | .ref j => (match seqO S j with
    | some ds => ds.length = n ∧ h ds sd S k
    | none => False)
  | _ => False
theorem gm_unl {kk n : Nat} {h : MGs} (hs : PGs X es (tGms c h)) (hc : X.calm = true := by rfl) (hn : (assignEach es X.env).length = n := by rfl) (hst : (assignEach es X.env).findIdx? (·.1) = none := by rfl) (hK : c.K = X.K := by rfl) : PG X (.Tuple es kk pos) (tGm c (gmUnl n h)) :=
  weakG (pg_unl hc hs hn hst) fun v s H Q z => by
    obtain ⟨r, S, sd, d, kk, a, rd, hg, nn⟩ := z
    unfold gmUnl at hg
    split at hg
    · split at hg
      · rename_i ds es
        obtain ⟨b, vs, rfl, _, h1, h2⟩ := seq_of a.sim rd es
        exact ⟨b, vs, rfl, by rw [← hK]; exact h1, by rw [← h2.length]; exact hg.1, r, S, sd, _, kk, a, h2, hg.2, nn⟩
      · exact hg.elim
    · exact hg.elim
theorem e_gmUnl {n j : Nat} {h : MGs} {sd : Sg} {S : Sto} {kk : Sg → Sto → Prop} : gmUnl n h (.ref j) sd S kk = (match seqO S j with
    | some ds => ds.length = n ∧ h ds sd S kk
    | none => False) := Eq.trans rfl rfl
end
/-! ### equations of the own methods -/
section
variable {sd : Sg} {S : Sto} {q : QD} {x : QX} {a b m : ME} {u : Spec} {cn : Str} {cs : List Str} {d e : D} {ds : List D}
theorem e_mEqO : mEqO cn cs u a b sd S q x = a sd S (fun d S1 => b sd S1 (fun e S2 => isIns cn d S2 fun _ => okE cs e S2 ∧ u [d, e] S2 q x) x) x := Eq.trans rfl rfl
theorem e_mNeO : mNeO cn cs u a b sd S q x = a sd S (fun d S1 => b sd S1 (fun e S2 => isIns cn d S2 fun _ => okE cs e S2 ∧ u [d, e] S2 (fun r S3 => match r with
  | .bl k => q (.bl (!k)) S3
  | _ => False) noQ) x) x := Eq.trans rfl rfl
theorem e_fLenO : fLenO cn u [d] S q = isIns cn d S fun _ => u [d] S (fun r S3 => match r with
    | .int n => (0 ≤ n ∧ n < 2 ^ 63) ∧ q (.int n) S3
    | _ => False) noQ := Eq.trans rfl rfl
theorem e_fBoolO : fBoolO cn u [d] S q = isIns cn d S fun _ => u [d] S (fun r S3 => match r with
    | .bl b => q (.bl b) S3
    | _ => False) noQ := Eq.trans rfl rfl
theorem e_mtTO {Q : Bool → Sto → Prop} : mtTO cn u m sd S Q x = m sd S (fun d S1 => isIns cn d S1 fun _ => u [d] S1 (fun r S3 => match r with
    | .bl b => Q b S3
    | _ => False) noQ) x := Eq.trans rfl rfl
theorem e_mInO : mInO cn u d e S q = isIns cn e S fun _ => u [e, d] S (fun r S3 => match r with
    | .bl b => q (.bl b) S3
    | _ => False) noQ := Eq.trans rfl rfl
theorem e_mNotInO : mNotInO cn u d e S q = isIns cn e S fun _ => u [e, d] S (fun r S3 => match r with
    | .bl b => q (.bl (!b)) S3
    | _ => False) noQ := Eq.trans rfl rfl
theorem e_mGetO : mGetO cn u a b sd S q x = a sd S (fun d S1 => b sd S1 (fun e S2 => isIns cn d S2 fun _ => u [d, e] S2 q x) x) x := Eq.trans rfl rfl
/-! comprehensions -/
theorem e_mComp {mi : MI} {vs : List Nat} {g : MG} {t : MT} : mComp mi vs g t m sd S q x = mi sd S (fun it S1 => compL it.ok g t m (wipeD sd vs) (fun ys S2 => q (.ref S2.length) (S2 ++ [.lst ys])) it.items [] S1) x := Eq.trans rfl rfl
theorem e_mtYes {Q : Bool → Sto → Prop} : mtYes sd S Q x = Q true S := Eq.trans rfl rfl
end
end Lw

namespace Lw
open PySem PySem.Spec PyProof.Rows L2

section
variable {X : Cx} {c : Cn} {m ma mb : ME} {a b e o fx : Expr} {es : List Expr} {mr : MA} {p pos : Pos} {k : Nat} {f C : Addr} {u : Spec} {cn : Str} {cs : List Str} {t : MT}
theorem mts_one (h : PT X e (tT c t)) : PTs X [e] (tT c t) := pts_one h
theorem nest_mono {M : Model} {A : Around} {E : Value → Shared → Prop} {s : Shared} {ea eb : Sem Value} {op : Value → Value → Sem Value} {P : Value → Shared → Prop} {R : Value → Value → Value → Shared → Prop}
    (h : wpAny M A ea (fun v s₁ => wpAny M A eb (fun u s₂ => wpAny M A (op v u) P E s₂) E s₁) E s) (g : ∀ v u c s', P c s' → R v u c s') :
    wpAny M A ea (fun v s₁ => wpAny M A eb (fun u s₂ => wpAny M A (op v u) (R v u) E s₂) E s₁) E s :=
  wpAny_mono h (fun v s1 h1 => wpAny_mono h1 (fun u s2 h2 => wpAny_mono h2 (fun c s3 h3 => g v u c s3 h3) fun _ _ z => z) fun _ _ z => z) fun _ _ z => z
/-! own == and != as tests -/
theorem eqO_nest {pins : List (Addr × Obj)} {σ : L2.St} {H : Hp} {s : Shared} {Q : VK} (O : OpF X cn "__eq__" C f u k) (Ow : Owns X.K X.mg cs) (E : EqF X.K X.mg C cs) (hc : CallOk X c k) (ha : PE X a (tE c ma)) (hb : PE X b (tE c mb)) (I : Inv X pins σ H s) (h : tE c (mEqO cn cs u ma mb) σ H Q) :
    wpAny (model X.prog X.w) X.A (eval a X.env) (fun v s₁ => wpAny (model X.prog X.w) X.A (eval b X.env) (fun u s₂ => wpAny (model X.prog X.w) X.A (compareOp .Eq v u) (EP X pins σ Q) X.xe s₂) X.xe s₁) X.xe s := by
  refine two_run (K3 := fun d e S q x => u [d, e] S q x) (op := compareOp .Eq) ha hb I h hc.mg O.mg ?_
  intro s1 x od w wx H1 r S d e q xx I1 J ry sm rd re ok hu g gx
  have hu' : u ([d, e] ++ []) S q xx := hu
  clear hu h
  show wpAny (model X.prog X.w) X.A (richCompare .Eq (.ref x) w) (EP X pins σ Q) X.xe s1
  obtain ⟨mm, fr⟩ := I1.fr
  obtain ⟨t, L, nf⟩ := right_ok hc.K hc.mg Ow E I1 ry sm re ok
  have z : wpAny (model X.prog X.w) X.A (call (.ref f) [.ref x, w]) (EP X pins σ Q) X.xe s1 := fn_run (us := [.ref x, w]) (vs := [.ref x, wx]) (dl := [d, e]) O.F hc I1 (.cons rfl (.cons ry .nil)) sm (.cons rd (.cons re .nil)) hu' g gx
  have z2 : wpAny (model X.prog X.w) X.A (call (.ref f) [.ref x, w]) (PySem.W.CmpBack (EP X pins σ Q)) X.xe s1 := wpAny_mono z (fun v s' h => back_of h) fun _ _ h => h
  exact PySem.W.cmp_K (op := .Eq) hc.u0 fr I1.ok.mod.kin J L nf O.at_ O.fn z2
theorem neO_nest {pins : List (Addr × Obj)} {σ : L2.St} {H : Hp} {s : Shared} {Q : VK} (O : OpF X cn "__eq__" C f u k) (Ow : Owns X.K X.mg cs) (E : EqF X.K X.mg C cs) (N : NeF X.K C) (hc : CallOk X c (k + 1)) (ha : PE X a (tE c ma)) (hb : PE X b (tE c mb)) (I : Inv X pins σ H s) (h : tE c (mNeO cn cs u ma mb) σ H Q) :
    wpAny (model X.prog X.w) X.A (eval a X.env) (fun v s₁ => wpAny (model X.prog X.w) X.A (eval b X.env) (fun u s₂ => wpAny (model X.prog X.w) X.A (compareOp .NotEq v u) (EP X pins σ Q) X.xe s₂) X.xe s₁) X.xe s := by
  refine two_run (K3 := fun d e S q x => u [d, e] S (fun r S3 => match r with
      | .bl k => q (.bl (!k)) S3
      | _ => False) noQ) (op := compareOp .NotEq) ha hb I h hc.mg O.mg ?_
  intro s1 x od w wx H1 r S d e q xx I1 J ry sm rd re ok hu g gx
  have hu' : u [d, e] S (fun r S3 => match r with
      | .bl k => q (.bl (!k)) S3
      | _ => False) noQ := hu
  clear hu h
  show wpAny (model X.prog X.w) X.A (richCompare .NotEq (.ref x) w) (EP X pins σ Q) X.xe s1
  obtain ⟨mm, fr⟩ := I1.fr
  obtain ⟨t, L, nf⟩ := right_ok hc.K hc.mg Ow E I1 ry sm re ok
  have gq : GoV c r H1 (fun r S3 => match r with
      | .bl k => q (.bl (!k)) S3
      | _ => False) (fun v H' => ∃ b, v = .bl b ∧ Q (.bl (!b)) H') := fun d' S' r' v H' hq t' sm' rd' => by
    cases rd' with
    | bl b => exact ⟨b, rfl, g _ S' r' _ H' hq t' sm' (.bl _)⟩
    | _ => exact hq.elim
  have z : wpAny (model X.prog X.w) X.A.in1 (call (.ref f) [.ref x, w]) (EP X pins σ (fun v H' => ∃ b, v = .bl b ∧ Q (.bl (!b)) H')) X.xe s1 := fn_in1 (us := [.ref x, w]) (vs := [.ref x, wx]) (dl := [d, e]) O.F hc I1 (.cons rfl (.cons ry .nil)) sm (.cons rd (.cons re .nil)) hu' gq
  have room : X.A.units + 1 < cLine := by have := hc.room.un; omega
  refine ne_own room fr I1.ok.mod.kin J L nf N.ne N.ob O.at_ O.fn (wpAny_mono z (fun v s' h => ?_) fun _ _ h => h)
  obtain ⟨vv, H', I', rv, b, rfl, q'⟩ := h
  obtain rfl : v = Value.bool b := rv
  exact ⟨b, rfl, .bl (!b), H', I', rfl, q'⟩
/-- a test from a comparison as a value -/
theorem tst_nest {pins : List (Addr × Obj)} {σ : L2.St} {s : Shared} {op : CmpOp} {Q : Bool → Hp → Prop} (hm : behindInMarks op b = false)
    (h : wpAny (model X.prog X.w) X.A (eval a X.env) (fun v s₁ => wpAny (model X.prog X.w) X.A (eval b X.env) (fun u s₂ => wpAny (model X.prog X.w) X.A (compareOp op v u) (EP X pins σ fun v H' => ∃ k, v = .bl k ∧ Q k H') X.xe s₂) X.xe s₁) X.xe s) :
    wpAny (model X.prog X.w) X.A (isTrue (.Compare a [op] [b] pos) X.env (eval (.Compare a [op] [b] pos) X.env)) (TP X pins σ Q) X.xe s := by
  refine wpAny_isTrue_Compare1 (nest_mono (R := fun v u c s' => wpAny (model X.prog X.w) X.A (truthy c) (TP X pins σ Q) X.xe s') h fun v u c s' hc => ?_) hm
  obtain ⟨z, H3, I3, r3, k, e, q3⟩ := hc
  subst e
  obtain rfl : c = Value.bool k := r3
  exact wpAny_truthy_bool ⟨H3, I3, q3⟩
theorem mtB_val {mm : ME} {s : L2.St} {H : Hp} {Q : Bool → Hp → Prop} (h : tT c (mtB mm) s H Q) : tE c mm s H (fun v H' => ∃ k, v = .bl k ∧ Q k H') := by
  obtain ⟨r, S, sd, q, x, a, hm, g, gx⟩ := h
  refine ⟨r, S, sd, _, x, a, hm, fun d S1 r1 v H1 h1 t1 s1 rd1 => ?_, gx⟩
  cases rd1 with
  | bl b => exact ⟨b, rfl, g b S1 r1 H1 h1 t1 s1⟩
  | _ => exact h1.elim
theorem mt_eqO (O : OpF X cn "__eq__" C f u k) (Ow : Owns X.K X.mg cs) (E : EqF X.K X.mg C cs) (hc : CallOk X c k) (ha : PE X a (tE c ma)) (hb : PE X b (tE c mb)) : PT X (.Compare a [.Eq] [b] pos) (tT c (mtB (mEqO cn cs u ma mb))) :=
  ⟨fun pins s σ H Q I h => tst_nest (nomark _) (eqO_nest O Ow E hc ha hb I (mtB_val h))⟩
theorem mt_neO (O : OpF X cn "__eq__" C f u k) (Ow : Owns X.K X.mg cs) (E : EqF X.K X.mg C cs) (N : NeF X.K C) (hc : CallOk X c (k + 1)) (ha : PE X a (tE c ma)) (hb : PE X b (tE c mb)) : PT X (.Compare a [.NotEq] [b] pos) (tT c (mtB (mNeO cn cs u ma mb))) :=
  ⟨fun pins s σ H Q I h => tst_nest (nomark _) (neO_nest O Ow E N hc ha hb I (mtB_val h))⟩
/-! any expression called -/
theorem me_callOX (O : OpF X cn "__call__" C f u k) (hc : CallOk X c k) (ho : PE X fx (tE c m)) (ha : PA X (e :: es) (tA c mr))
    (hev : eval (.Call fx (e :: es) [] pos) X.env = (do callWith pos (← eval fx X.env) [] (backTo pos (starEach (e :: es) X.env)) (backToKw pos (keywordEach [] X.env))) := by rfl)
    (he : starEach (e :: es) X.env = (false, eval e X.env) :: starEach es X.env := by rfl) (hpl : (backTo pos (starEach es X.env)).any (·.1) = false := by rfl) :
    PE X (.Call fx (e :: es) [] pos) (tE c (mCallO cn u m mr)) := by
  refine ⟨fun pins s σ H Q I h => Call_ ?_ hev⟩
  obtain ⟨r, S, sd, q, xx, aa, hm, g, gx⟩ := h
  refine thn (ho.run pins s σ H (fun v H1 => ∃ r1 S1 d, At c r1 S1 sd σ H1 ∧ c.Rd r1 H1 d v ∧ Stp r H r1 H1 ∧ (∃ i, d = .ref i ∧ ∃ x', v = V.ref x') ∧ mr sd S1 (fun ds S2 => isIns cn d S2 fun _ => u (d :: ds) S2 q xx) xx) I ⟨r, S, sd, _, xx, aa, hm, fun d S1 r1 v H1 h1 t1 sm1 rd1 => ?_, gx⟩) fun v s1 ⟨vx, H1, I1, rx, r1, S1, d, a1, rd1, t1, ⟨i, ed, x', ev⟩, h1⟩ => ?_
  · obtain ⟨i, fs, x', dx, vs, rfl, rfl, _, _, _, _, _, hu⟩ := isIns_of (C := C) h1 sm1 rd1 (by rw [hc.mg]; exact O.mg)
    exact ⟨r1, S1, _, aa.step t1 sm1, rd1, t1, ⟨i, rfl, x', rfl⟩, hu⟩
  · subst ed ev
    obtain rfl : v = Value.ref x' := rx
    rw [he]
    refine callWith_inst (by show ((false || (backTo pos (starEach es X.env)).any (·.1)) || false) = false; rw [hpl]; rfl) (PySem.Calls.evalArgs_plain ?_)
    have hq := ha.run pos pins s1 σ H1 (fun ws H2 => ∃ r2 S2 ds, c.Sm r2 H2 S2 ∧ c.Rs r2 H2 ds ws ∧ Stp r1 H1 r2 H2 ∧ isIns cn (.ref i) S2 fun _ => u (.ref i :: ds) S2 q xx) I1 ⟨r1, S1, sd, _, xx, a1, h1, fun ds S2 r2 ws H2 h2 t2 sm2 rd2 => ⟨r2, S2, ds, sm2, rd2, t2, h2⟩, gx.step t1⟩
    rw [he] at hq
    refine thn hq fun us s2 ⟨ws, H2, I2, rr, r2, S2, ds, sm2, rd2, t2, h2⟩ => ?_
    obtain ⟨i', fs, y, dx, vs, ei, ey, er, _, e1, _, _, hu⟩ := isIns_of (C := C) h2 sm2 (rd1.mono t2) (by rw [hc.mg]; exact O.mg)
    cases ei; cases ey
    obtain ⟨od, J⟩ := inst_of I2 e1
    have t12 := t1.trans t2
    refine ⟨⟨_, _, _, J⟩, wpAny_call (PySem.W.kco_code I2.kIn J rfl O.at_ O.fn O.fi ?_)⟩
    exact fn_code (us := .ref x' :: us) (vs := .ref x' :: ws) (dl := .ref i :: ds) O.F hc I2 (.cons rfl rr) sm2 (.cons (rd1.mono t2) rd2) hu (g.step t12) (gx.step t12)
end
end Lw

namespace Lw
open PySem PySem.Spec PyProof.Rows L2

/-! ### defs with defaults: n values are written, the defaults behind the first j fill up -/
theorem fdg_of1 {P : Program} {w : World} {K : PySem.W.Frag} {mg : Mg} {base : Heap} {x qual : Str} {params : Arguments} {bd : List Stmt} {scope : Scope} {f : Addr} {fd : FuncData} {k : Nat} {ps : List Str} {u : Spec} {dvs : List V} {dd : List D}
    (F : FunD K x qual params bd scope dvs [] f fd) (G : FnG P w K mg base k f fd ps (spOf K mg u)) (n j : Nat) (hd : dvs ≠ []) (hn : n + (dvs.length - j) = ps.length) (hdd : ∀ r H, RelDs K mg r H dd (dvs.drop j))
    (hb : ∀ (T : Addr) (kV doc pm : Value) (an : Option Addr) (cdv ct : Value) (us its : List Value), us.length = n → its.length = dvs.length →
      ∃ k, bindArgs (PySem.W.fnOf x qual params bd scope (.ref T) kV doc pm an cdv ct) ⟨us, []⟩ = seqItems? (.ref T) >>= k ∧ k (some its.toArray) = pure (ps.zip (us ++ its.drop j))) : FdG P w K mg base k f u dd :=
  let ⟨ds, hv, hbi⟩ := F.binds1 n j hd hn hb
  ⟨⟨fd, ps, dvs.drop j, ds, G, hbi, hv, hdd⟩, F.kp⟩
end Lw

namespace Lw
open PySem PySem.Spec PyProof.Rows L2

/-! ### built-in functions of lists: sum, all, any, sorted, tuple, list; x op= e; slices -/
section
variable {K : PySem.W.Frag} {mg : Mg} {r : List Addr} {H : Hp}
theorem RelDs.ints : ∀ {ns : List Int} {vs : List V}, RelDs K mg r H (ns.map D.int) vs → vs = ns.map V.int
  | [], _, h => by cases h; rfl
  | n :: ns, _, h => by
    cases h with
    | cons h1 h2 =>
      cases h1
      rw [RelDs.ints h2]; rfl
theorem RelDs.bls : ∀ {bs : List Bool} {vs : List V}, RelDs K mg r H (bs.map D.bl) vs → vs = bs.map V.bl
  | [], _, h => by cases h; rfl
  | n :: ns, _, h => by
    cases h with
    | cons h1 h2 =>
      cases h1
      rw [RelDs.bls h2]; rfl
theorem RelDs.ofInts : ∀ ns : List Int, RelDs K mg r H (ns.map D.int) (ns.map V.int)
  | [] => .nil
  | n :: ns => .cons (.int n) (RelDs.ofInts ns)
theorem RelDs.drop : ∀ (k : Nat) {ds : List D} {vs : List V}, RelDs K mg r H ds vs → RelDs K mg r H (ds.drop k) (vs.drop k)
  | 0, _, _, h => h
  | k + 1, _, _, .nil => .nil
  | k + 1, _, _, .cons _ h => RelDs.drop k h
theorem RelDs.take : ∀ (k : Nat) {ds : List D} {vs : List V}, RelDs K mg r H ds vs → RelDs K mg r H (ds.take k) (vs.take k)
  | 0, _, _, h => .nil
  | k + 1, _, _, .nil => .nil
  | k + 1, _, _, .cons h1 h => .cons h1 (RelDs.take k h)
end
def fSum : MFn := fun ds S q => match ds with
  | [.ref n] => (match seqO S n with
    | some xs => ∃ ns : List Int, xs = ns.map D.int ∧ q (.int ns.sum) S
    | none => False)
  | _ => False
def fAll : MFn := fun ds S q => match ds with
  | [.ref n] => (match seqO S n with
    | some xs => ∃ bs : List Bool, xs = bs.map D.bl ∧ q (.bl (bs.all id)) S
    | none => False)
  | _ => False
def fAny : MFn := fun ds S q => match ds with
  | [.ref n] => (match seqO S n with
    | some xs => ∃ bs : List Bool, xs = bs.map D.bl ∧ q (.bl (bs.any id)) S
    | none => False)
  | _ => False
def fSorted : MFn := fun ds S q => match ds with
  | [.ref n] => (match seqO S n with
    | some xs => ∃ ns : List Int, xs = ns.map D.int ∧ ∀ ns' : List Int, ns'.Perm ns → ns'.Pairwise (· ≤ ·) → q (.ref S.length) (S ++ [.lst (ns'.map D.int)])
    | none => False)
  | _ => False
def fTuple : MFn := fun ds S q => match ds with
  | [.ref n] => (match seqO S n with
    | some xs => q (.tup xs) S
    | none => False)
  | [.tup xs] => q (.tup xs) S
  | _ => False
def fList : MFn := fun ds S q => match ds with
  | [.ref n] => (match seqO S n with
    | some xs => q (.ref S.length) (S ++ [.lst xs])
    | none => False)
  | [.tup xs] => q (.ref S.length) (S ++ [.lst xs])
  | _ => False
section
variable {X : Cx} {c : Cn}
theorem cm_sum (hK : c.K = X.K) (hc : X.calm = true) : CallM X c (.builtin "sum") fSum := ⟨_, cr_sum hc, fun xs H Q z => by
  obtain ⟨r, S, ds, q, sm, rd, h, g⟩ := z
  unfold fSum at h
  split at h
  · obtain ⟨v, rfl, rv⟩ := rs1 rd
    split at h
    · rename_i es
      obtain ⟨ns, rfl, h⟩ := h
      obtain ⟨a, vs, rfl, _, h1, h2⟩ := seq_of sm rv es
      rw [RelDs.ints h2] at h1
      exact ⟨a, ns, rfl, by rw [← hK]; exact h1, g _ S r _ H h Stp.refl sm (.int _)⟩
    · exact h.elim
  · exact h.elim⟩
theorem cm_all (hK : c.K = X.K) (hc : X.calm = true) : CallM X c (.builtin "all") fAll := ⟨_, cr_all hc, fun xs H Q z => by
  obtain ⟨r, S, ds, q, sm, rd, h, g⟩ := z
  unfold fAll at h
  split at h
  · obtain ⟨v, rfl, rv⟩ := rs1 rd
    split at h
    · rename_i es
      obtain ⟨ns, rfl, h⟩ := h
      obtain ⟨a, vs, rfl, _, h1, h2⟩ := seq_of sm rv es
      rw [RelDs.bls h2] at h1
      exact ⟨a, ns, rfl, by rw [← hK]; exact h1, g _ S r _ H h Stp.refl sm (.bl _)⟩
    · exact h.elim
  · exact h.elim⟩
theorem cm_any (hK : c.K = X.K) (hc : X.calm = true) : CallM X c (.builtin "any") fAny := ⟨_, cr_any hc, fun xs H Q z => by
  obtain ⟨r, S, ds, q, sm, rd, h, g⟩ := z
  unfold fAny at h
  split at h
  · obtain ⟨v, rfl, rv⟩ := rs1 rd
    split at h
    · rename_i es
      obtain ⟨ns, rfl, h⟩ := h
      obtain ⟨a, vs, rfl, _, h1, h2⟩ := seq_of sm rv es
      rw [RelDs.bls h2] at h1
      exact ⟨a, ns, rfl, by rw [← hK]; exact h1, g _ S r _ H h Stp.refl sm (.bl _)⟩
    · exact h.elim
  · exact h.elim⟩
theorem new_lst {r : List Addr} {H : Hp} {S : Sto} {p : Addr} {ds : List D} {vs : List V} (sm : c.Sm r H S) (h : c.Rs r H ds vs) (np : H p = none) :
    Stp r H (r ++ [p]) (upd H p (.lst vs)) ∧ c.Sm (r ++ [p]) (upd H p (.lst vs)) (S ++ [.lst ds]) ∧ c.Rd (r ++ [p]) (upd H p (.lst vs)) (.ref S.length) (.ref p) := by
  have t2 : Stp r H (r ++ [p]) (upd H p (.lst vs)) := Stp.cell np
  exact ⟨t2, sm.cell np (.lst upd_same (h.mono t2)), .ref (by rw [← sm.len, List.getElem?_append_right (Nat.le_refl _)]; simp)⟩
theorem cm_sorted (hK : c.K = X.K) : CallM X c (.builtin "sorted") fSorted := ⟨_, cr_sortedI, fun xs H Q z => by
  obtain ⟨r, S, ds, q, sm, rd, h, g⟩ := z
  unfold fSorted at h
  split at h
  · obtain ⟨v, rfl, rv⟩ := rs1 rd
    split at h
    · rename_i es
      obtain ⟨ns, rfl, h⟩ := h
      obtain ⟨a, vs, rfl, _, h1, h2⟩ := seq_of sm rv es
      rw [RelDs.ints h2] at h1
      refine ⟨a, ns, rfl, by rw [← hK]; exact h1, fun ns' p pm pw np => ?_⟩
      obtain ⟨t2, s2, r2⟩ := new_lst (c := c) sm (ds := ns'.map D.int) (vs := ns'.map V.int) (RelDs.ofInts ns') np
      exact g _ _ _ _ _ (h ns' pm pw) t2 s2 r2
    · exact h.elim
  · exact h.elim⟩
theorem cm_tuple (hK : c.K = X.K) : CallM X c (.type "tuple") fTuple := ⟨_, call_tuple_of, fun xs H Q z => by
  obtain ⟨r, S, ds, q, sm, rd, h, g⟩ := z
  unfold fTuple at h
  split at h
  · obtain ⟨v, rfl, rv⟩ := rs1 rd
    split at h
    · rename_i es
      obtain ⟨a, vs, rfl, _, h1, h2⟩ := seq_of sm rv es
      refine ⟨a, vs, rfl, .inl ⟨by rw [← hK]; exact h1, fun p np => ?_⟩⟩
      have t2 : Stp r H r (upd H p (.tup vs)) := Stp.laid np
      exact g _ S r _ _ h t2 (sm.laid np) (.tup (.inl (.inl upd_same)) (h2.mono t2))
    · exact h.elim
  · obtain ⟨v, rfl, rv⟩ := rs1 rd
    obtain ⟨a, vs, rfl, h1, h2⟩ := tup_of rv
    exact ⟨a, vs, rfl, .inr ⟨by rw [← hK]; exact h1, g _ S r _ H h Stp.refl sm (.tup h1 h2)⟩⟩
  · exact h.elim⟩
theorem cm_list (hK : c.K = X.K) : CallM X c (.type "list") fList := ⟨_, call_list_of, fun xs H Q z => by
  obtain ⟨r, S, ds, q, sm, rd, h, g⟩ := z
  unfold fList at h
  split at h
  · obtain ⟨v, rfl, rv⟩ := rs1 rd
    split at h
    · rename_i es
      obtain ⟨a, vs, rfl, _, h1, h2⟩ := seq_of sm rv es
      refine ⟨a, vs, rfl, .inl (by rw [← hK]; exact h1), fun p np => ?_⟩
      obtain ⟨t2, s2, r2⟩ := new_lst (c := c) sm h2 np
      exact g _ _ _ _ _ h t2 s2 r2
    · exact h.elim
  · obtain ⟨v, rfl, rv⟩ := rs1 rd
    obtain ⟨a, vs, rfl, h1, h2⟩ := tup_of rv
    refine ⟨a, vs, rfl, .inr (by rw [← hK]; exact h1), fun p np => ?_⟩
    obtain ⟨t2, s2, r2⟩ := new_lst (c := c) sm h2 np
    exact g _ _ _ _ _ h t2 s2 r2
  · exact h.elim⟩
end
/-! x op= e -/
section
variable {X : Cx} {c : Cn} {pos pos' : Pos} {e : Expr} {m : ME}
theorem ip_mul {X : Cx} : PIp X .Mult (fun x y H Q => ∃ i j, x = .int i ∧ y = .int j ∧ (CMul i j ∨ CMulW i j) ∧ Q (.int (i * j)) H) := by
  intro pins s σ H x y v u Q I r1 r2 h
  obtain ⟨i, j, e1, e2, hc, q⟩ := h
  subst e1; subst e2
  obtain ⟨t, rfl⟩ := r1
  obtain ⟨t', rfl⟩ := r2
  exact imul_int ⟨.int _, H, I.tok _, ⟨_, rfl⟩, q⟩ (by rcases hc with hc | hc <;> exact hc.ok)
theorem iw_mul : ∀ v u H Q, rOp c mMul v u H Q → ∃ i j, v = V.int i ∧ u = V.int j ∧ (CMul i j ∨ CMulW i j) ∧ Q (.int (i * j)) H := fun v u H Q z => by
  obtain ⟨r, S, d, e, q, sm, rd, re, h, g⟩ := z
  unfold mMul at h
  split at h
  · cases rd; cases re; exact ⟨_, _, rfl, rfl, h.1, g _ S r _ H h.2 Stp.refl sm (.int _)⟩
  · exact h.elim
def mAddI : MOp := fun d e S q => match d, e with
  | .int i, .int j => q (.int (i + j)) S
  | _, _ => False
theorem iw_add : ∀ v u H Q, rOp c mAddI v u H Q → ipI (fun i j => i + j) v u H Q := fun v u H Q z => by
  obtain ⟨r, S, d, e, q, sm, rd, re, h, g⟩ := z
  unfold mAddI at h
  split at h
  · cases rd; cases re; exact ⟨_, _, rfl, rfl, g _ S r _ H h Stp.refl sm (.int _)⟩
  · exact h.elim
theorem iw_sub : ∀ v u H Q, rOp c mSub v u H Q → ipI (fun i j => i - j) v u H Q := fun v u H Q z => by
  obtain ⟨r, S, d, e, q, sm, rd, re, h, g⟩ := z
  unfold mSub at h
  split at h
  · cases rd; cases re; exact ⟨_, _, rfl, rfl, g _ S r _ H h Stp.refl sm (.int _)⟩
  · exact h.elim
theorem ms_augP {i : Nat} {x : Str} {op : Operator} {f : MOp} {ti : TIp} (ho : PIp X op ti) (w : ∀ v u H Q, rOp c f v u H Q → ti v u H Q) (hN : X.N.Nodup) (hi : X.N[i]? = some x) (hx : Loc X.env.scope x) (he : PE X e (tE c m))
    (hf : X.fn x = true ∨ X.env.scope.names.lookup x = some .local := by first | exact .inl rfl | exact .inr rfl | assumption) :
    PS X (.AugAssign (.Name x pos') op e pos) (tS c (mAug i f m)) := by
  refine weakS (ps_aug hN hi hx he ho hf) fun D s H z => ?_
  obtain ⟨r, S, sd, md, a, hm, g⟩ := z
  unfold mAug at hm
  split at hm
  · rename_i d ed
    obtain ⟨v, ev, rv⟩ := a.rel.at_ i d ed
    refine ⟨v, ev, r, S, sd, _, _, a, hm, fun e S1 r1 u H1 h t sm rd => ?_, goX_of g a.rel⟩
    exact w _ _ _ _ ⟨r1, S1, d, e, _, sm, rv.mono t, rd, h, fun o S2 r2 y H2 h2 t2 sm2 rd2 => g.nx _ S2 r2 _ H2 h2 (t.trans t2) sm2 ((a.rel.mono (t.trans t2)).put rd2)⟩
  · exact hm.elim
end
/-! a[lo:hi] -/
def mPt (o : Option ME) (sd : Sg) (S : Sto) (k : Option Int → Sto → Prop) (x : QX) : Prop := match o with
  | none => k none S
  | some m => m sd S (fun d S1 => match d with
    | .int i => k (some i) S1
    | _ => False) x
def cutD (ds : List D) (lo hi : Option Int) : List D := (ds.drop (HT.sIx ds.length 0 lo)).take (HT.sIx ds.length ds.length hi - HT.sIx ds.length 0 lo)
def mSl (m : ME) (lo hi : Option ME) : ME := fun sd S q x => m sd S (fun d S1 => mPt lo sd S1 (fun l S2 => mPt hi sd S2 (fun h S3 => match d with
  | .ref n => (match seqO S3 n with
    | some ds => q (.ref S3.length) (S3 ++ [.lst (cutD ds l h)])
    | none => False)
  | .tup ds => q (.tup (cutD ds l h)) S3
  | _ => False) x) x) x
inductive PoM (X : Cx) (c : Cn) : Option Expr → Option ME → Prop
  | none : PoM X c none none
  | some {e : Expr} {m : ME} (h : PE X e (tE c m)) : PoM X c (some e) (some m)
section
variable {X : Cx} {c : Cn} {pos p2 : Pos} {e : Expr} {m : ME} {lo hi : Option Expr} {ml mh : Option ME}
theorem PoM.ok (h : PoM X c lo ml) : ∃ t, PO X lo t ∧ ∀ {r : List Addr} {S : Sto} {sd : Sg} {s : L2.St} {H : Hp} {k : Option Int → Sto → Prop} {x : QX} {Q : Option Int → Hp → Prop}, At c r S sd s H → mPt ml sd S k x →
    (∀ i S1 r1 H1, k i S1 → Stp r H r1 H1 → c.Sm r1 H1 S1 → Q i H1) → GoX c r H s x → t s H Q := by
  cases h with
  | none => exact ⟨_, po_none, fun a h g gx => g _ _ _ _ h Stp.refl a.sim⟩
  | some h =>
    refine ⟨_, po_some h, fun {r S sd s H k x Q} a h g gx => ?_⟩
    refine ⟨r, S, sd, _, x, a, h, fun d S1 r1 v H1 h1 t1 s1 rd1 => ?_, gx⟩
    cases rd1 with
    | int i => exact ⟨i, rfl, g _ S1 r1 H1 h1 t1 s1⟩
    | _ => exact h1.elim
theorem RelDs.cut {K : PySem.W.Frag} {mg : Mg} {r : List Addr} {H : Hp} {ds : List D} {vs : List V} {l h : Option Int} (q : RelDs K mg r H ds vs) : RelDs K mg r H (cutD ds l h) (cutV vs l h) := by
  unfold cutD cutV
  rw [← q.length]
  exact (q.drop _).take _
theorem me_slice (hK : c.K = X.K) (he : PE X e (tE c m)) (hl : PoM X c lo ml) (hh : PoM X c hi mh) : PE X (.Subscript e (.Slice lo hi none p2) pos) (tE c (mSl m ml mh)) := by
  obtain ⟨tl, pl, wl⟩ := hl.ok
  obtain ⟨th, ph, wh⟩ := hh.ok
  refine weakE (pe_slice (sl_list.or sl_tupA) he pl ph) fun s H Q z => ?_
  obtain ⟨r, S, sd, q, x, a, hm, g, gx⟩ := z
  refine ⟨r, S, sd, _, x, a, hm, fun d S1 r1 v H1 h1 t1 s1 rd1 => ?_, gx⟩
  have a1 := a.step t1 s1
  refine wl a1 h1 (fun l S2 r2 H2 h2 t2 s2 => ?_) (gx.step t1)
  have a2 := a1.step t2 s2
  refine wh a2 h2 (fun u S3 r3 H3 h3 t3 s3 => ?_) ((gx.step t1).step t2)
  have t13 := (t1.trans t2).trans t3
  have rd3 := rd1.mono (t2.trans t3)
  split at h3
  · split at h3
    · rename_i es
      obtain ⟨b, vs, rfl, _, k1, k2⟩ := seq_of s3 rd3 es
      refine .inl ⟨b, vs, rfl, by rw [← hK]; exact k1, fun p np => ?_⟩
      obtain ⟨t4, s4, r4⟩ := new_lst (c := c) s3 (RelDs.cut (l := l) (h := u) k2) np
      exact g _ _ _ _ _ h3 (t13.trans t4) s4 r4
    · exact h3.elim
  · obtain ⟨b, vs, rfl, k1, k2⟩ := tup_of rd3
    refine .inr ⟨b, vs, rfl, by rw [← hK]; exact k1, fun e => ?_, fun _ p np => ?_⟩
    · have e2 : cutV vs l u = vs := by
        unfold cutV
        rw [e.1, e.2, List.drop_zero, Nat.sub_zero, List.take_length]
      have k3 := RelDs.cut (l := l) (h := u) k2
      rw [e2] at k3
      exact g _ S3 r3 _ H3 h3 t13 s3 (.tup k1 k3)
    · have t4 : Stp r3 H3 r3 (upd H3 p (.tup (cutV vs l u))) := Stp.laid np
      exact g _ S3 r3 _ _ h3 (t13.trans t4) (s3.laid np) (.tup (.inl (.inl upd_same)) ((RelDs.cut k2).mono t4))
  · exact h3.elim
end
section
variable {S : Sto} {q : QD} {n : Nat} {ds : List D} {sd : Sg} {x : QX} {m l h : ME} {md : MEnds} {i : Nat} {f : MOp}
theorem e_fTupleT : fTuple [.tup ds] S q = q (.tup ds) S := Eq.trans rfl rfl
theorem e_mAug : mAug i f m md sd S = (match sd[i]? with
  | some (some d) => m sd S (fun e S1 => f d e S1 (fun o S2 => md.nx (sd.set i (some o)) S2)) (fun e S1 => md.ex e sd S1)
  | _ => False) := Eq.trans rfl rfl
theorem e_addI {i j : Int} : mAddI (.int i) (.int j) S q = q (.int (i + j)) S := Eq.trans rfl rfl
def slD (d : D) (l h : Option Int) (S : Sto) (q : QD) : Prop := match d with
  | .ref n => (match seqO S n with
    | some ds => ∀ k S2, k = S.length → S2 = S ++ [.lst (cutD ds l h)] → q (.ref k) S2
    | none => False)
  | .tup ds => q (.tup (cutD ds l h)) S
  | _ => False
theorem slD_eq {d : D} {l h : Option Int} : (match d with
  | .ref n => (match seqO S n with
    | some ds => q (.ref S.length) (S ++ [.lst (cutD ds l h)])
    | none => False)
  | .tup ds => q (.tup (cutD ds l h)) S
  | _ => False) = slD d l h S q := by
  unfold slD
  cases d with
  | ref n =>
    dsimp only
    cases seqO S n with
    | none => rfl
    | some ds => exact propext ⟨fun h k S2 e1 e2 => by rw [e1, e2]; exact h, fun h => h _ _ rfl rfl⟩
  | _ => rfl
theorem e_mSl00 : mSl m none none sd S q x = m sd S (fun d S1 => slD d none none S1 q) x := by simp only [← slD_eq]; exact Eq.trans rfl rfl
theorem e_mSl01 : mSl m none (some h) sd S q x = m sd S (fun d S1 => h sd S1 (fun e S2 => match e with
  | .int i => slD d none (some i) S2 q
  | _ => False) x) x := by simp only [← slD_eq]; exact Eq.trans rfl rfl
theorem e_mSl10 : mSl m (some l) none sd S q x = m sd S (fun d S1 => l sd S1 (fun e S2 => match e with
  | .int i => slD d (some i) none S2 q
  | _ => False) x) x := by simp only [← slD_eq]; exact Eq.trans rfl rfl
theorem e_mSl11 : mSl m (some l) (some h) sd S q x = m sd S (fun d S1 => l sd S1 (fun e S2 => match e with
  | .int i => h sd S2 (fun e2 S3 => match e2 with
    | .int j => slD d (some i) (some j) S3 q
    | _ => False) x
  | _ => False) x) x := by simp only [← slD_eq]; exact Eq.trans rfl rfl
end
end Lw

namespace L2
open PySem PySem.Spec PyProof.Rows
/-! ### range(i, j), integers of any size -/
theorem turn_long {P : Program} {w : World} {K : PySem.W.Frag} {tg : Expr} (it : Addr) (lo : Int) (n : Nat) : Turn P w K tg (Itr lo n) [it] it (fun i h => IsLongIter h it (lo + (i : Nat) * 1) ((n : Int) - (i : Nat)) 1) where
  mem := by simp
  obj := fun i h st b hb => by
    have e : b = it := by simpa using hb
    subst e
    exact ⟨_, st, fun v z => by
      have z' : Data.fields _ = Data.cell v := z
      cases z'⟩
  keep := fun i h h' st k => k it (by simp) _ st
  item := by
    intro X hP hw hK hc i pins s σ H E I hf st hg
    subst hP hw hK
    obtain ⟨f0, f1, f2, f3, f4, f5⟩ := hf it (by simp)
    have W := Walks.longrange (prog := X.prog) (w := X.w) (I.ok.hd hc) it lo 1 n
    refine W.item i s _ _ hg st fun v h' tk hv st' kk => ?_
    obtain ⟨t, rfl⟩ := hv
    have I1 : Inv X pins σ H { s with heap := h', toks := tk } := I.turned (fun b o hb e => kk b o (by simpa using hb) e) f0 f1 f3 f4 f5
    refine ⟨_, rfl, go_of (s := { s with heap := h', toks := tk }) (n := "longrange_iterator") st' rfl rfl (by decide) ⟨.int (lo + i), H, I1, ⟨t, ?_⟩, ⟨rfl, rfl⟩, st', fun b hb => (hf b hb).1⟩⟩
    rw [Int.mul_one]
  done := by
    intro X hP hw hK hc i pins s σ H E I hf st hg
    subst hP hw hK
    obtain ⟨f0, f1, f2, f3, f4, f5⟩ := hf it (by simp)
    exact wpAny_pyNext_long_end (I.ok.hd hc) st (by have : n ≤ i := hg; omega) fun h' eb => ⟨rfl, I.turned (t' := s.toks) (fun b o hb e => eb b o hb e) f0 f1 f3 f4 f5⟩
  self := fun _ _ _ _ _ st h => wpAny_pyIter_longiter st h
theorem range_itW {X : Cx} {tg : Expr} {pins : List (Addr × Obj)} {σ : St} {H : Hp} {s : Shared} {R : It → Hp → Prop} {E : Value → Shared → Prop} {lo hi : Int} {t u v : Tok} {tk : Nat} (I : Inv X pins σ H s)
    (q : R (Itr lo (hi - lo).toNat) H) : wpAny (model X.prog X.w) X.A (pyIter (.ref s.heap.objs.size)) (PIE X pins σ tg R) E { s with heap := s.heap.push { cls := .type "range", data := .fields #[.int lo t, .int hi u, .int 1 v] }, toks := tk } := by
  have I1 : Inv X pins σ H { s with heap := s.heap.push { cls := .type "range", data := .fields #[.int lo t, .int hi u, .int 1 v] }, toks := tk } := I.kept fun b o e => Heap.get?_push_of_some _ e
  have e1 : lo + ((0 : Nat) : Int) * 1 = lo := by simp
  have e2 : (((hi - lo).toNat : Nat) : Int) - ((0 : Nat) : Int) = Builtin.Range.rangeSize lo hi 1 := by rw [rangeSize_one]; split <;> omega
  have fp : ∀ b ∈ [(s.heap.push { cls := .type "range", data := .fields #[.int lo t, .int hi u, .int 1 v] }).objs.size], FpOk X pins H b := fun b hb => by
    have e : b = (s.heap.push { cls := .type "range", data := .fields #[.int lo t, .int hi u, .int 1 v] }).objs.size := by simpa using hb
    subst e
    exact I1.fpOk (Nat.le_refl _) (I1.hok.fresh (Nat.le_refl _))
  by_cases hs : Builtin.Range.small lo hi 1 = true
  · refine wpAny_pyIter_range (IsRange.new ..) hs ?_
    refine ⟨(s.heap.push { cls := .type "range", data := .fields #[.int lo t, .int hi u, .int 1 v] }).objs.size, [(s.heap.push { cls := .type "range", data := .fields #[.int lo t, .int hi u, .int 1 v] }).objs.size], _, _, H, rfl,
      I1.kept (t' := tk) fun b o e => Heap.get?_push_of_some _ e, turn_range _ lo (hi - lo).toNat, ?_, fp, q⟩
    show IsRangeIter _ _ (lo + ((0 : Nat) : Int) * 1) ((((hi - lo).toNat : Nat) : Int) - ((0 : Nat) : Int)) 1
    rw [e1, e2]
    exact Heap.get?_push_size _ rfl
  · refine wpAny_pyIter_longrange (IsRange.new ..) (by simpa using hs) ?_
    refine ⟨(s.heap.push { cls := .type "range", data := .fields #[.int lo t, .int hi u, .int 1 v] }).objs.size, [(s.heap.push { cls := .type "range", data := .fields #[.int lo t, .int hi u, .int 1 v] }).objs.size], _, _, H, rfl,
      I1.kept (t' := tk) fun b o e => Heap.get?_push_of_some _ e, turn_long _ lo (hi - lo).toNat, ?_, fp, q⟩
    show IsLongIter _ _ (lo + ((0 : Nat) : Int) * 1) ((((hi - lo).toNat : Nat) : Int) - ((0 : Nat) : Int)) 1
    rw [e1, e2]
    exact Heap.get?_push_size _ rfl
def iRngW (ta : TA) : TI := fun σ H R => ta σ H fun vs H1 => ∃ i j : Int, vs = [.int i, .int j] ∧ R (Itr i (j - i).toNat) H1
theorem pi_rangeW {X : Cx} {tg a b : Expr} {ta : TA} {p pos : Pos} (hg : Gl X "range") (hm : X.mg "range" = none) (ha : PA X [a, b] ta) (hs : starEach [a, b] X.env = [(false, eval a X.env), (false, eval b X.env)] := by rfl) (hs2 : starEach [b] X.env = [(false, eval b X.env)] := by rfl) :
    PI X tg (.Call (.Name "range" p) [a, b] [] pos) (iRngW ta) := by
  refine ⟨fun pins s σ H R I h => ?_⟩
  refine Call_ (ld_blt I hg hm boot_range (PyProof.Rows.callWith_type1 (thn (ha.run pos pins s σ H _ I h) fun us s1 ⟨vs, H1, I1, r1, q1⟩ => ?_) (by rw [hs, hs2]) (by rw [hs2]; rfl)))
  obtain ⟨i, j, e, q⟩ := q1
  subst e
  cases r1 with
  | cons r rr =>
    cases rr with
    | cons r' rr =>
      cases rr
      obtain ⟨t, rfl⟩ := r
      obtain ⟨t', rfl⟩ := r'
      exact call_range_2 (range_itW I1 q)
end L2
namespace Lw
open PySem PySem.Spec PyProof.Rows L2
def miRangeW (m : MA) : MI := fun sd S q x => m sd S (fun ds S1 => match ds with
  | [.int i, .int j] => q ⟨rangeD i (j - i).toNat, fun _ => True⟩ S1
  | _ => False) x
section
variable {X : Cx} {c : Cn} {mr : MA} {es : List Expr} {e tg : Expr}
theorem pi_mrangeW (h : ∀ {t : TA}, PA X es t → PI X tg e (iRngW t)) (ha : PA X es (tA c mr)) : PI X tg e (tI c (miRangeW mr)) := weakI (h ha) fun s H R z => by
  obtain ⟨r, S, sd, q, x, a, hm, g, gx⟩ := z
  refine ⟨r, S, sd, _, x, a, hm, fun ds S1 r1 vs H1 h1 t1 sm1 rd1 => ?_, gx⟩
  split at h1
  · rename_i i j
    cases rd1 with
    | cons h2 h3 =>
      cases h3 with
      | cons h3 h4 =>
        cases h4
        cases h2
        cases h3
        exact ⟨i, j, rfl, g _ S1 r1 H1 _ h1 t1 sm1 it_range⟩
  · exact h1.elim
end
theorem e_miRangeW {ml : MA} {sd : Sg} {S : Sto} {x : QX} {Q : Itm → Sto → Prop} : miRangeW ml sd S Q x = ml sd S (fun ds S1 => match ds with
  | [.int i, .int j] => Q ⟨rangeD i (j - i).toNat, fun _ => True⟩ S1
  | _ => False) x := Eq.trans rfl rfl
end Lw

namespace Lw
open PySem PySem.Spec PyProof.Rows L2

/-! ### i ** j, i of any size -/
def CPowW (i j : Int) : Prop := 0 ≤ j ∧ (Builtin.Int.intBits i : Int) * j ≤ 2 ^ 27
theorem op_powW {X : Cx} : OpR X (binaryOp .Pow) (rI CPowW fun i j => .int (i ^ j.toNat)) := opI fun _ _ _ _ _ _ _ hc q => pow_int hc.1 hc.2 q
theorem cpowW {i j : Int} {k : Nat} (h : i.natAbs < 2 ^ k) (h0 : 0 ≤ j) (h2 : (k : Int) * j ≤ 2 ^ 27) : CPowW i j := by
  refine ⟨h0, Int.le_trans (Int.mul_le_mul_of_nonneg_right ?_ h0) h2⟩
  have := intBits_le h
  omega
def mPowW : MOp := fun d e S q => match d, e with
  | .int i, .int j => CPowW i j ∧ q (.int (i ^ j.toNat)) S
  | _, _ => False
theorem om_powW {X : Cx} {c : Cn} : OpM X c (binaryOp .Pow) mPowW := ⟨_, op_powW, fun v u H Q z => by
  obtain ⟨r, S, d, e, q, sm, rd, re, h, g⟩ := z
  unfold mPowW at h
  split at h
  · cases rd; cases re; exact ⟨_, _, rfl, rfl, h.1, g _ S r _ H h.2 Stp.refl sm (.int _)⟩
  · exact h.elim⟩
theorem e_powW {S : Sto} {q : QD} {i j : Int} : mPowW (.int i) (.int j) S q = (CPowW i j ∧ q (.int (i ^ j.toNat)) S) := Eq.trans rfl rfl
end Lw

namespace Lw
open PySem PySem.Spec PyProof.Rows L2

/-! ### zip(a, b): two lists or two tuples -/
def zipD (a b : List D) : List D := List.zipWith (fun x y => .tup [x, y]) a b
theorem zipD_get {a b : List D} {i : Nat} {d : D} (h : (zipD a b)[i]? = some d) : ∃ x y, a[i]? = some x ∧ b[i]? = some y ∧ d = .tup [x, y] := by
  unfold zipD at h
  rw [List.getElem?_zipWith] at h
  cases ea : a[i]? with
  | none => rw [ea] at h; simp at h
  | some x =>
    cases eb : b[i]? with
    | none => rw [ea, eb] at h; simp at h
    | some y =>
      rw [ea, eb] at h
      simp at h
      exact ⟨x, y, rfl, rfl, h.symm⟩
theorem zipD_len {a b : List D} : (zipD a b).length = min a.length b.length := by unfold zipD; simp
def miZip (m : MA) : MI := fun sd S q x => m sd S (fun ds S1 => match ds with
  | [.ref n, .ref k] => (match lstO S1 n, lstO S1 k with
    | some a, some b => q ⟨zipD a b, fun S2 => S2[n]? = some (.lst a) ∧ S2[k]? = some (.lst b)⟩ S1
    | _, _ => False)
  | [.tup a, .tup b] => q ⟨zipD a b, fun _ => True⟩ S1
  | _ => False) x
section
variable {X : Cx} {c : Cn} {mr : MA} {es : List Expr} {e tg : Expr}
theorem it_zip {r0 : List Addr} {H0 : Hp} {n k : Nat} {p p2 : Addr} {ds xs : List D} (hr : r0[n]? = some p) (hr2 : r0[k]? = some p2) : ItOk c (Itz c.K p p2) ⟨zipD ds xs, fun S2 => S2[n]? = some (.lst ds) ∧ S2[k]? = some (.lst xs)⟩ r0 H0 := by
  have key : ∀ {n : Nat} {a : Addr} {ds : List D} (r H S), r0[n]? = some a → Wk r0 H0 r H → c.Sm r H S → S[n]? = some (.lst ds) → ∃ vs, SqL c.K H a vs ∧ c.Rs r H ds vs := fun r H S hr t sm h => list_at sm (t.ext _ _ hr) (.inl h)
  refine ⟨fun i r H S t sm h hi => ?_, fun i r H S t sm h hi => ?_, fun i d x r H H' S t sm h hd hy => ?_⟩
  · obtain ⟨vs, h1, h2⟩ := key r H S hr t sm h.1
    obtain ⟨ws, h3, h4⟩ := key r H S hr2 t sm h.2
    have hi' : i < min ds.length xs.length := by rw [← zipD_len]; exact hi
    have l1 : i < vs.length := by rw [← h2.length]; omega
    have l2 : i < ws.length := by rw [← h4.length]; omega
    exact ⟨vs, ws, vs[i], ws[i], h1, h3, List.getElem?_eq_getElem l1, List.getElem?_eq_getElem l2⟩
  · obtain ⟨vs, h1, h2⟩ := key r H S hr t sm h.1
    obtain ⟨ws, h3, h4⟩ := key r H S hr2 t sm h.2
    have hi' : i = min ds.length xs.length := by rw [← zipD_len]; exact hi
    refine ⟨vs, ws, h1, h3, ?_⟩
    rw [← h2.length, ← h4.length]
    omega
  · obtain ⟨vs, h1, h2⟩ := key r H S hr t sm h.1
    obtain ⟨ws, h3, h4⟩ := key r H S hr2 t sm h.2
    obtain ⟨u, v, eu, ev, rfl⟩ := zipD_get hd
    obtain ⟨T, a, b, rfl, nT, rfl, ha, hb⟩ := hy
    obtain ⟨a', e1, ra⟩ := h2.get eu
    obtain ⟨b', e2, rb⟩ := h4.get ev
    have ea := ha vs h1
    rw [e1] at ea; cases ea
    have eb := hb ws h3
    rw [e2] at eb; cases eb
    have t2 : Stp r H r (upd H T (.tup [a, b])) := Stp.laid nT
    exact ⟨t2, sm.laid nT, .tup (.inl (.inl upd_same)) ((RelDs.cons ra (.cons rb .nil)).mono t2)⟩
theorem it_zipT {r0 : List Addr} {H0 : Hp} {p p2 : Addr} {ds xs : List D} {vs ws : List V} (h1 : SqT c.K H0 p vs) (h2 : c.Rs r0 H0 ds vs) (h3 : SqT c.K H0 p2 ws) (h4 : c.Rs r0 H0 xs ws) : ItOk c (RZ.ItzT c.K p p2) ⟨zipD ds xs, fun _ => True⟩ r0 H0 := by
  refine ⟨fun i r H S t sm h hi => ?_, fun i r H S t sm h hi => ?_, fun i d x r H H' S t sm h hd hy => ?_⟩
  · have hi' : i < min ds.length xs.length := by rw [← zipD_len]; exact hi
    have l1 : i < vs.length := by rw [← h2.length]; omega
    have l2 : i < ws.length := by rw [← h4.length]; omega
    exact ⟨vs, ws, vs[i], ws[i], t.sqT h1, t.sqT h3, List.getElem?_eq_getElem l1, List.getElem?_eq_getElem l2⟩
  · have hi' : i = min ds.length xs.length := by rw [← zipD_len]; exact hi
    refine ⟨vs, ws, t.sqT h1, t.sqT h3, ?_⟩
    rw [← h2.length, ← h4.length]
    omega
  · obtain ⟨u, v, eu, ev, rfl⟩ := zipD_get hd
    obtain ⟨T, a, b, rfl, nT, rfl, ha, hb⟩ := hy
    obtain ⟨a', e1, ra⟩ := h2.get eu
    obtain ⟨b', e2, rb⟩ := h4.get ev
    have ea := ha vs (t.sqT h1)
    rw [e1] at ea; cases ea
    have eb := hb ws (t.sqT h3)
    rw [e2] at eb; cases eb
    have t2 : Stp r H r (upd H T (.tup [a, b])) := Stp.laid nT
    exact ⟨t2, sm.laid nT, .tup (.inl (.inl upd_same)) ((RelDs.cons (ra.monoW t) (.cons (rb.monoW t) .nil)).mono t2)⟩
theorem pi_mzip (hK : c.K = X.K) (h : ∀ {t : TA}, PA X es t → PI X tg e (RZ.iZipA X.K t)) (ha : PA X es (tA c mr)) : PI X tg e (tI c (miZip mr)) := weakI (h ha) fun s H R z => by
  obtain ⟨r, S, sd, q, x, a, hm, g, gx⟩ := z
  refine ⟨r, S, sd, _, x, a, hm, fun ds S1 r1 vs H1 h1 t1 sm1 rd1 => ?_, gx⟩
  split at h1
  · rename_i n k
    split at h1
    · rename_i la lb ea eb
      obtain ⟨v, u, rfl, rv, ru⟩ := rs2 rd1
      obtain ⟨p1, ws, rfl, k1, q1, q2⟩ := lst_of sm1 rv ea
      obtain ⟨p2, zs, rfl, k2, q3, q4⟩ := lst_of sm1 ru eb
      exact ⟨p1, p2, ws, zs, rfl, .inl ⟨.of q1, .of q3, by rw [← hK]; exact g _ S1 r1 H1 _ h1 t1 sm1 (it_zip k1 k2)⟩⟩
    · exact h1.elim
  · obtain ⟨v, u, rfl, rv, ru⟩ := rs2 rd1
    obtain ⟨p1, ws, rfl, q1, q2⟩ := tup_of rv
    obtain ⟨p2, zs, rfl, q3, q4⟩ := tup_of ru
    exact ⟨p1, p2, ws, zs, rfl, .inr ⟨by rw [← hK]; exact q1, by rw [← hK]; exact q3, by rw [← hK]; exact g _ S1 r1 H1 _ h1 t1 sm1 (it_zipT q1 q2 q3 q4)⟩⟩
  · exact h1.elim
end
def zpD (ds : List D) (S : Sto) (Q : Itm → Sto → Prop) : Prop := match ds with
  | [.ref n, .ref k] => (match lstO S n, lstO S k with
    | some a, some b => Q ⟨zipD a b, fun S2 => S2[n]? = some (.lst a) ∧ S2[k]? = some (.lst b)⟩ S
    | _, _ => False)
  | [.tup a, .tup b] => Q ⟨zipD a b, fun _ => True⟩ S
  | _ => False
theorem e_miZip {ml : MA} {sd : Sg} {S : Sto} {x : QX} {Q : Itm → Sto → Prop} : miZip ml sd S Q x = ml sd S (fun ds S1 => zpD ds S1 Q) x := Eq.trans rfl rfl
theorem e_zpT {a b : List D} {S : Sto} {Q : Itm → Sto → Prop} : zpD [.tup a, .tup b] S Q = Q ⟨zipD a b, fun _ => True⟩ S := Eq.trans rfl rfl
end Lw

namespace Lw
open PySem PySem.Spec PyProof.Rows L2

/-! ### isinstance(x, (T, U)): two built-in types -/
def mIsi2 (T U : String) (cs : List Str) (m : ME) : ME := fun sd S q x => m sd S (fun d S1 => match tyD S1 d with
  | some (.b s) => q (.bl (isB T s || isB U s)) S1
  | some (.o k) => k ∈ cs ∧ q (.bl false) S1
  | none => False) x
section
variable {X : Cx} {c : Cn} {m : ME} {a b e o : Expr} {es : List Expr} {mr : MA} {p p2 p3 p4 pos : Pos} {cs : List Str} {k1 : Nat}
theorem any2 {K : PySem.W.Frag} {t : Value} {T U : String} {x y : Bool} (h : PySem.W.kitOne K t (.type T) = some x) (h2 : PySem.W.kitOne K t (.type U) = some y) : PySem.W.kitAny K t [.type T, .type U] = some (x || y) := by
  refine kitAny_cons h (fun e => ?_) fun e => by rw [e]; rfl
  refine kitAny_cons h2 (fun e2 => ?_) fun e2 => by rw [e, e2]; rfl
  rw [e, e2]
  exact kitAny_nil
theorem me_isi2 {T U : String} {x y y2 : Str} (hg : Gl X x) (hmx : X.mg x = none) (hv : bootBuiltins x = some (.builtin "isinstance")) (hg2 : Gl X y) (hmy : X.mg y = none) (hv2 : bootBuiltins y = some (.type T))
    (hg3 : Gl X y2) (hmy3 : X.mg y2 = none) (hv3 : bootBuiltins y2 = some (.type U)) (he : PE X e (tE c m)) (hK : c.K = X.K) (hm : c.mg = X.mg) (O : Owns X.K X.mg cs)
    (hB : ∀ s ∈ kinds, kitB s T = some (isB T s)) (hO : ∀ k ∈ cs, ∀ C, X.mg k = some (.ref C) → PySem.W.kitOne X.K (.ref C) (.type T) = some false)
    (hB2 : ∀ s ∈ kinds, kitB s U = some (isB U s)) (hO2 : ∀ k ∈ cs, ∀ C, X.mg k = some (.ref C) → PySem.W.kitOne X.K (.ref C) (.type U) = some false)
    (hn : x ≠ "__name__" := by decide) (hdb : (x == ("__debug__" : Str)) = false := by decide) (hn2 : y ≠ "__name__" := by decide) (hdb2 : (y == ("__debug__" : Str)) = false := by decide) (hn3 : y2 ≠ "__name__" := by decide) (hdb3 : (y2 == ("__debug__" : Str)) = false := by decide)
    (hs : starEach (e :: [Expr.Tuple [.Name y p2, .Name y2 p3] k1 p4]) X.env = (false, eval e X.env) :: starEach [Expr.Tuple [.Name y p2, .Name y2 p3] k1 p4] X.env := by rfl) (hpl : (backTo pos (starEach [Expr.Tuple [.Name y p2, .Name y2 p3] k1 p4] X.env)).any (·.1) = false := by rfl)
    (hs2 : starEach [Expr.Tuple [.Name y p2, .Name y2 p3] k1 p4] X.env = (false, eval (Expr.Tuple [.Name y p2, .Name y2 p3] k1 p4) X.env) :: starEach [] X.env := by rfl)
    (hs3 : starEach [.Name y p2, .Name y2 p3] X.env = (false, eval (.Name y p2) X.env) :: starEach [.Name y2 p3] X.env := by rfl) (hs4 : starEach [.Name y2 p3] X.env = (false, eval (.Name y2 p3) X.env) :: starEach [] X.env := by rfl) :
    PE X (.Call (.Name x p) [e, .Tuple [.Name y p2, .Name y2 p3] k1 p4] [] pos) (tE c (mIsi2 T U cs m)) := by
  obtain ⟨cK, cmg, cP, cst, cW⟩ := c
  obtain rfl : cK = X.K := hK
  obtain rfl : cmg = X.mg := hm
  refine weakE (pe_callB call_isiT hg hmx hv (pa_cons he (pa_cons (pe_tup (pa_cons (pe_bltn hg2 hmy hv2 (show RelV (.ty T) (.type T) from rfl) hn2 hdb2) (pa_cons (pe_bltn hg3 hmy3 hv3 (show RelV (.ty U) (.type U) from rfl) hn3 hdb3) pa_nil hs4) hs3)) pa_nil hs2) hs) hn hdb hs hpl) fun s H Q z => ?_
  obtain ⟨r, S, sd, q, xx, a, hm, g, gx⟩ := z
  refine ⟨r, S, sd, _, xx, a, hm, fun d S1 r1 v H1 h1 t1 s1 rd1 => ?_, gx⟩
  refine ⟨by show 2 ≤ sizeLine; rw [sizeLine_eq]; omega, fun tp np => ?_⟩
  have t2 : Stp r1 H1 r1 (upd H1 tp (.tup [.ty T, .ty U])) := Stp.laid np
  have s2 := s1.laid (o := .tup [.ty T, .ty U]) np
  have rd2 := rd1.mono t2
  have pr : Paired ClsV [.ty T, .ty U] [.type T, .type U] := .cons (.ty T) (.cons (.ty U) .nil)
  dsimp only at h1
  split at h1
  · rename_i s es
    exact ⟨v, tp, _, .type s, _, _, rfl, upd_same, pr, tyB_of s2 rd2 es, any2 (kit_ty (hB s (tyB_kind es))) (kit_ty (hB2 s (tyB_kind es))), g _ S1 r1 _ _ h1 (t1.trans t2) s2 (.bl _)⟩
  · rename_i k es
    obtain ⟨C, hC, oc⟩ := O.at_ k h1.1
    exact ⟨v, tp, _, .ref C, _, _, rfl, upd_same, pr, tyO_of s2 rd2 es hC oc, any2 (hO k h1.1 C hC) (hO2 k h1.1 C hC), g _ S1 r1 _ _ h1.2 (t1.trans t2) s2 (.bl _)⟩
  · exact h1.elim
/-! ### a walk over a list or a tuple, whichever it is -/
def miAny (m : ME) : MI := fun sd S q x => m sd S (fun d S1 => match d with
  | .tup ds => q ⟨ds, fun _ => True⟩ S1
  | .ref n => (match S1[n]? with
    | some (.lst ds) => q ⟨ds, fun S2 => S2[n]? = some (.lst ds)⟩ S1
    | some (.frz ds) => q ⟨ds, fun S2 => S2[n]? = some (.frz ds)⟩ S1
    | _ => False)
  | _ => False) x
def iSeq (K : PySem.W.Frag) (tl : TE) : TI := fun σ H R => tl σ H fun x H1 => ∃ a, x = .ref a ∧ (((∃ xs, SqL K H1 a xs) ∧ R (Itl K a) H1) ∨ ((∃ xs, SqT K H1 a xs) ∧ R (Itt K a) H1))
theorem pi_seq {tg l : Expr} {tl : TE} (hl : PE X l tl) : PI X tg l (iSeq X.K tl) := by
  refine ⟨fun pins s σ H R I h => ?_⟩
  refine thn (hl.run pins s σ H _ I h) fun v s1 ⟨x, H1, I1, r1, q1⟩ => ?_
  obtain ⟨a, e, q1⟩ := q1
  subst e
  cases r1
  rcases q1 with ⟨⟨xs, hq⟩, q⟩ | ⟨⟨xs, hq⟩, q⟩
  · obtain ⟨its, rv, p, hz⟩ := I1.list hq
    refine wpAny_pyIter_list p.isList ?_
    refine ⟨s1.heap.objs.size, [s1.heap.objs.size], _, _, H1, rfl, I1.kept (t' := s1.toks) fun b o e => Heap.get?_push_of_some _ e, turn_list a _, ⟨_, Heap.get?_push_size _ rfl, rfl, rfl⟩, fun b hb => ?_, q⟩
    have e : b = s1.heap.objs.size := by simpa using hb
    subst e
    exact I1.fpOk (Nat.le_refl _) (I1.hok.fresh (Nat.le_refl _))
  · obtain ⟨its, rv, p, hz⟩ := I1.tuple hq
    refine wpAny_pyIter_tuple (show s1.heap.IsTuple a its.toArray from p) ?_
    refine ⟨s1.heap.objs.size, [s1.heap.objs.size], _, _, H1, rfl, I1.kept (t' := s1.toks) fun b o e => Heap.get?_push_of_some _ e, turn_tuple a _, ⟨_, Heap.get?_push_size _ rfl, rfl, rfl⟩, fun b hb => ?_, q⟩
    have e : b = s1.heap.objs.size := by simpa using hb
    subst e
    exact I1.fpOk (Nat.le_refl _) (I1.hok.fresh (Nat.le_refl _))
theorem pi_many {tg : Expr} (hK : c.K = X.K) (h : PE X e (tE c m)) : PI X tg e (tI c (miAny m)) := weakI (pi_seq h) fun s H R z => by
  obtain ⟨r, S, sd, q, x, a, hm, g, gx⟩ := z
  refine ⟨r, S, sd, _, x, a, hm, fun d S1 r1 v H1 h1 t1 sm1 rd1 => ?_, gx⟩
  cases rd1 with
  | ref hr =>
    dsimp only at h1
    split at h1
    · rename_i ds hS
      obtain ⟨vs, q1, q2⟩ := list_at sm1 hr (.inl hS)
      exact ⟨_, rfl, .inl ⟨⟨vs, by rw [← hK]; exact q1⟩, by rw [← hK]; exact g _ S1 r1 H1 _ h1 t1 sm1 (it_list (.inl rfl) hr)⟩⟩
    · rename_i ds hS
      obtain ⟨vs, q1, q2⟩ := list_at sm1 hr (.inr hS)
      exact ⟨_, rfl, .inl ⟨⟨vs, by rw [← hK]; exact q1⟩, by rw [← hK]; exact g _ S1 r1 H1 _ h1 t1 sm1 (it_list (.inr rfl) hr)⟩⟩
    · exact h1.elim
  | tup hq rs => exact ⟨_, rfl, .inr ⟨⟨_, by rw [← hK]; exact hq⟩, by rw [← hK]; exact g _ S1 r1 H1 _ h1 t1 sm1 (it_tup hq rs)⟩⟩
  | _ => exact h1.elim
end
section
variable {sd : Sg} {S : Sto} {q : QD} {x : QX} {m : ME} {cs : List Str} {T U : String} {d : D} {ds : List D} {Q : Itm → Sto → Prop}
theorem e_mIsi2 : mIsi2 T U cs m sd S q x = m sd S (fun d S1 => match tyD S1 d with
  | some (.b s) => q (.bl (isB T s || isB U s)) S1
  | some (.o k) => k ∈ cs ∧ q (.bl false) S1
  | none => False) x := Eq.trans rfl rfl
def seqW (d : D) (S : Sto) (Q : Itm → Sto → Prop) : Prop := match d with
  | .tup ds => Q ⟨ds, fun _ => True⟩ S
  | .ref n => (match S[n]? with
    | some (.lst ds) => Q ⟨ds, fun S2 => S2[n]? = some (.lst ds)⟩ S
    | some (.frz ds) => Q ⟨ds, fun S2 => S2[n]? = some (.frz ds)⟩ S
    | _ => False)
  | _ => False
theorem e_miAny : miAny m sd S Q x = m sd S (fun d S1 => seqW d S1 Q) x := Eq.trans rfl rfl
theorem e_seqT : seqW (.tup ds) S Q = Q ⟨ds, fun _ => True⟩ S := Eq.trans rfl rfl
end
end Lw

namespace Lw
open PySem PySem.Spec PyProof.Rows L2

/-! ### range(i, j, c) -/
def rangeC (lo c : Int) : Nat → List D
  | 0 => []
  | n + 1 => .int lo :: rangeC (lo + c) c n
theorem rangeC_len (c : Int) (n : Nat) : ∀ lo, (rangeC lo c n).length = n := by
  induction n with
  | zero => intro lo; rfl
  | succ n ih => intro lo; unfold rangeC; rw [List.length_cons, ih]
theorem rangeC_get (c : Int) : ∀ (n : Nat) (lo : Int) (i : Nat), i < n → (rangeC lo c n)[i]? = some (.int (lo + (i : Nat) * c))
  | 0, _, i, h => by omega
  | n + 1, lo, 0, _ => by unfold rangeC; simp
  | n + 1, lo, i + 1, h => by
    unfold rangeC
    rw [List.getElem?_cons_succ, rangeC_get c n (lo + c) i (by omega)]
    congr 2
    push_cast
    rw [Int.add_mul, Int.one_mul]
    omega
def miRange3 (m : MA) : MI := fun sd S q x => m sd S (fun ds S1 => match ds with
  | [.int i, .int j, .int c] => ∃ n, RgC i j c n ∧ q ⟨rangeC i c n, fun _ => True⟩ S1
  | _ => False) x
section
variable {X : Cx} {c : Cn} {mr : MA} {es : List Expr} {e tg : Expr}
theorem it_rangeC {r0 : List Addr} {H0 : Hp} {lo k : Int} {n : Nat} : ItOk c (Itc lo k n) ⟨rangeC lo k n, fun _ => True⟩ r0 H0 := by
  refine ⟨fun i r H S t sm h hi => ?_, fun i r H S t sm h hi => ?_, fun i d x r H H' S t sm h hd hy => ?_⟩
  · have := rangeC_len k n lo
    show i < n
    simp only [this] at hi
    exact hi
  · have := rangeC_len k n lo
    show n ≤ i
    simp only [this] at hi
    omega
  · have hi : i < n := by
      have h1 := (List.getElem?_eq_some_iff.mp hd).1
      rw [rangeC_len] at h1
      exact h1
    have e : (rangeC lo k n)[i]? = some d := hd
    rw [rangeC_get k n lo i hi] at e
    cases e
    obtain ⟨rfl, rfl⟩ := hy
    exact ⟨Stp.refl, sm, .int _⟩
theorem pi_mrange3 (h : ∀ {t : TA}, PA X es t → PI X tg e (iRng3 t)) (ha : PA X es (tA c mr)) : PI X tg e (tI c (miRange3 mr)) := weakI (h ha) fun s H R z => by
  obtain ⟨r, S, sd, q, x, a, hm, g, gx⟩ := z
  refine ⟨r, S, sd, _, x, a, hm, fun ds S1 r1 vs H1 h1 t1 sm1 rd1 => ?_, gx⟩
  split at h1
  · rename_i i j k
    obtain ⟨n, hn, h1⟩ := h1
    cases rd1 with
    | cons h2 h3 =>
      cases h3 with
      | cons h3 h4 =>
        cases h4 with
        | cons h4 h5 =>
          cases h5
          cases h2
          cases h3
          cases h4
          exact ⟨i, j, k, n, rfl, hn, g _ S1 r1 H1 _ h1 t1 sm1 it_rangeC⟩
  · exact h1.elim
end
end Lw

namespace Lw
open PySem PySem.Spec PyProof.Rows L2

/-! ### sorted(set(l)), l a list of ints -/
section
variable {P : Program} {w : World} {A : Around} {E : Value → Shared → Prop} {s : Shared}
/-- what filling a new set from a list leaves -/
theorem sl_fill {a l : Addr} {vs : Array Value} {ns : List Int} {G : Fin → Shared → Prop}
    (hA : A.handled = none) (ha : s.heap.get? a = some { cls := .type "set", dict := none, data := .set #[] 0 (.fresh 0 0 (!w.params.followText "set-order")) })
    (hl : s.heap.IsList l vs) (nal : l ≠ a) (hi : IntsAre vs.toList ns) (hb : ns.length + 1 < scanBound)
    (k : ∀ (h' : Heap) (tk c : Nat), SetR w h' a (fun j => decide (j ∈ ns)) c → c ≤ ns.length → (∀ b o, b ≠ a → s.heap.get? b = some o → h'.get? b = some o) → G (.done (.ret .none)) { s with heap := h', toks := tk }) :
    wpAny (model P w) A (Builtin.«set.__init__» ⟨[.ref a, .ref l], []⟩) G E s := by
  obtain ⟨⟨cl, di, da, sl⟩, eo, ec, nl, ed⟩ := id hl
  simp only at ec ed
  subst ec ed
  have lv : vs.size = ns.length := by rw [← IntsAre.length hi, Array.length_toList]
  have ht : s.TypeIs (.ref a) "set" := ⟨_, ha, rfl⟩
  have n1 := F.sub_list_set
  have n2 := F.sub_list_frozenset
  have n3 : (Value.type "list" == Value.type "dict") = false := by decide
  have la := Heap.lt_size ha
  have ll := Heap.lt_size eo
  unfold Builtin.«set.__init__» noKeywords Builtin.Frozenset.updateFrom
  generalize hit : pyIter = itr
  wp_walk
  subst hit
  refine wpAny_pyIter_list hl (wpAny_bind (wpAny_runValue ?_))
  have hA' : A.in1.handled = none := by simp [hA]
  have lI : l ≠ s.heap.objs.size := Nat.ne_of_lt ll
  refine set_update_ints ((Walks.list hA' _ l lI vs).toS) a (fun z => ?_) ns lv hb (fun i v q => ?_) vs.size 0 _ (Nat.sub_zero _) (Nat.zero_le _) ⟨⟨_, Heap.get?_push_size _ rfl, rfl, rfl⟩, hl.push _⟩
    ⟨0, Nat.le_refl 0, setR_new_at (Heap.get?_push_of_some _ ha)⟩ fun s2 c mv cl R => ?_
  · rcases List.mem_cons.mp z with z | z
    · exact absurd z (Nat.ne_of_lt la)
    · exact nal (List.mem_singleton.mp z).symm
  · have il : i < ns.length := lv ▸ (Array.getElem?_eq_some_iff.mp q).1
    obtain ⟨t, e⟩ := IntsAre.int_at hi i v (by rw [Array.getElem?_toList]; exact q)
    refine ⟨ns[i], t, List.getElem?_eq_getElem il, ?_⟩
    rw [e, List.getD_eq_getElem?_getD, List.getElem?_eq_getElem il]
    rfl
  · obtain ⟨h2, g2, d2, t2, o2⟩ := s2
    obtain ⟨mh, rfl, rfl, rfl, _⟩ := mv
    refine wpAny_pure (wpAny_pure (k h2 t2 c R (lv ▸ cl) fun b o nb e => mh b o (fun z => ?_) (Heap.get?_push_of_some _ e)))
    have lb := Heap.lt_size e
    rcases List.mem_cons.mp z with z | z
    · exact nb z
    · exact absurd (List.mem_singleton.mp z) (Nat.ne_of_lt lb)
/-- set(l) -/
theorem sl_make {l : Addr} {vs : Array Value} {ns : List Int} {Q : Value → Shared → Prop}
    (hA : A.handled = none) (hl : s.heap.IsList l vs) (hi : IntsAre vs.toList ns) (hb : ns.length + 1 < scanBound)
    (k : ∀ (h' : Heap) (tk c : Nat), SetR w h' s.heap.objs.size (fun j => decide (j ∈ ns)) c → c ≤ ns.length → (∀ b o, s.heap.get? b = some o → h'.get? b = some o) → Q (.ref s.heap.objs.size) { s with heap := h', toks := tk }) :
    wpAny (model P w) A (call (.type "set") [.ref l]) Q E s := by
  have T := F.called_set
  obtain ⟨m1, m2, em⟩ := T.mro
  have x1 := T.made
  have x2 := T.sub
  have x3 := T.notType
  have x4 := T.canCreate
  have x5 := T.init.lookup
  have x6 := T.init.bind (.ref s.heap.objs.size)
  have x7 := F.typeCall_set_1 (.ref l)
  have ll : l ≠ s.heap.objs.size := by
    obtain ⟨o, eo, _⟩ := hl
    exact Nat.ne_of_lt (Heap.lt_size eo)
  refine wpAny_call (codeAny_of_tree (show wpAny _ _ (callAny (.type "set") _) _ _ _ from wpAny_pure ⟨Code.quiet_builtin _ (by decide +kernel), codeAny_builtin F.entry_type_call ?_⟩))
  rw [Around.under_plain (weight_type_call_type "set" [.ref l] []) rfl]
  repeat (any_goals (first | assumption | wp_step))
  refine codeAny_mono (code_set_led1 (.ref l) (E := E) (Q₁ := fun v t => v = .ref s.heap.objs.size ∧ t = { s with heap := s.heap.push { cls := .type "set", dict := none, data := .set #[] 0 (.fresh 0 0 (!w.params.followText "set-order")) } }) ⟨rfl, rfl⟩) fun r t hr => ?_
  rcases r with e | (v | _ | _ | _)
  all_goals first | exact hr | exact hr.elim | skip
  obtain ⟨rfl, rfl⟩ := hr
  repeat (any_goals (first | assumption | wp_step))
  have hS : (s.heap.push { cls := .type "set", dict := none, data := .set #[] 0 (.fresh 0 0 (!w.params.followText "set-order")) }).get? s.heap.objs.size = some { cls := .type "set", dict := none, data := .set #[] 0 (.fresh 0 0 (!w.params.followText "set-order")) } := Heap.get?_push_size _ rfl
  refine codeAny_mono (codeAny_call_builtin (R := wants (fun v t => v = .none ∧ Q (.ref s.heap.objs.size) t) E) T.init.plain F.entry_set_init (check_set_init_1 ⟨_, hS, rfl⟩
    (sl_fill (by simp [hA]) hS (hl.push _) ll hi hb fun h' tk c R cl kp => ⟨rfl, k h' tk c R cl fun b o e => kp b o (Nat.ne_of_lt (Heap.lt_size e)) (Heap.get?_push_of_some _ e)⟩))) fun r t hr => ?_
  rcases r with e | (v | _ | _ | _)
  all_goals first | exact hr | exact hr.elim | skip
  obtain ⟨rfl, hq⟩ := hr
  repeat (any_goals (first | assumption | wp_step))
end
section
variable {X : Cx} {c : Cn}
/-- set(l) keeps what stands; the new object is the set of l's ints -/
def rSetL (K : PySem.W.Frag) (w : World) : List V → Hp → VK → Prop := fun xs H Q => ∃ (l : Addr) (ns : List Int), xs = [.ref l] ∧ SqL K H l (ns.map V.int) ∧ ns.length < 64 ∧
  ∀ (p : Addr) (k : Nat), k < 64 → H p = none → Q (.ref p) (upd H p (SetO w p (fun j => decide (j ∈ ns)) k))
theorem cr_setL (hc : X.calm = true) : CallR X (.type "set") (rSetL X.K X.w) := by
  intro pins s σ H xs us Q I r h
  obtain ⟨l, ns, rfl, hq, h64, q⟩ := h
  rw [Vals.ref1 r]
  obtain ⟨its, rv, pl, hz⟩ := I.list hq
  refine sl_make (I.ok.hd hc) pl.isList (by simpa using ints_of_vals rv) (by unfold scanBound; omega) fun h' tk k R kl kp => ?_
  exact ⟨.ref _, upd H s.heap.objs.size (SetO X.w s.heap.objs.size (fun j => decide (j ∈ ns)) k), I.laid (t' := tk) kp (Nat.le_refl _) (setO_new R), rfl, q _ k (by omega) (I.hok.fresh (Nat.le_refl _))⟩
/-- sorted(set(e)) -/
def srtD (d : D) (S : Sto) (q : QD) : Prop := match d with
  | .ref n => (match seqO S n with
    | some xs => ∃ ns : List Int, xs = ns.map D.int ∧ ns.length < 64 ∧ ∀ ns' : List Int, ns'.Pairwise (· < ·) → (∀ k, k ∈ ns' ↔ k ∈ ns) → q (.ref S.length) (S ++ [.lst (ns'.map D.int)])
    | none => False)
  | _ => False
def mSortedSet (m : ME) : ME := fun sd S q x => m sd S (fun d S1 => srtD d S1 q) x
theorem e_mSortedSet {m : ME} {sd : Sg} {S : Sto} {q : QD} {x : QX} : mSortedSet m sd S q x = m sd S (fun d S1 => srtD d S1 q) x := Eq.trans rfl rfl
theorem me_sortedSet {e : Expr} {m : ME} {p1 p2 q1 q2 : Pos} (hK : c.K = X.K) (hc : X.calm = true) (hg1 : Gl X "sorted") (hm1 : X.mg "sorted" = none) (hg2 : Gl X "set") (hm2 : X.mg "set" = none) (h : PE X e (tE c m))
    (hs : starEach [e] X.env = [(false, eval e X.env)] := by rfl) (hs2 : starEach [.Call (.Name "set" p2) [e] [] q2] X.env = [(false, eval (.Call (.Name "set" p2) [e] [] q2) X.env)] := by rfl) :
    PE X (.Call (.Name "sorted" p1) [.Call (.Name "set" p2) [e] [] q2] [] q1) (tE c (mSortedSet m)) := by
  refine weakE (pe_callB (cr_sortedSet hc) hg1 hm1 boot_sorted (pa_cons (pe_callTy (cr_setL hc) hg2 hm2 boot_set (pa_cons h pa_nil hs) (he := hs)) pa_nil hs2) (he := hs2)) fun s H Q z => ?_
  obtain ⟨r, S, sd, q, x, a, hm, gv, gx⟩ := z
  refine ⟨r, S, sd, _, x, a, hm, fun d S1 r1 v H1 h1 t1 s1 rd1 => ?_, gx⟩
  unfold tNil
  dsimp only at h1 ⊢
  unfold srtD at h1
  split at h1
  · rename_i n
    split at h1
    · rename_i xs es
      obtain ⟨ns, rfl, h64, h1⟩ := h1
      obtain ⟨l, vs, rfl, _, k1, k2⟩ := seq_of s1 rd1 es
      rw [RelDs.ints k2] at k1
      refine ⟨l, ns, rfl, by rw [← hK]; exact k1, h64, fun p k k64 np => ?_⟩
      refine ⟨p, _, k, rfl, upd_same, k64, fun ns' p' so me le np' => ?_⟩
      have t2 : Stp r1 H1 r1 (upd H1 p (SetO X.w p (fun j => decide (j ∈ ns)) k)) := Stp.laid np
      obtain ⟨t3, s3, r3⟩ := new_lst (c := c) (s1.laid np) (ds := ns'.map D.int) (vs := ns'.map V.int) (RelDs.ofInts ns') np'
      exact gv _ _ _ _ _ (h1 ns' so fun k => by rw [me k]; simp) (t1.trans (t2.trans t3)) s3 r3
    · exact h1.elim
  · exact h1.elim
end
end Lw

namespace Lw
open PySem PySem.Spec PyProof.Rows L2

/-! ### list comprehensions of two fors; list(range(n)) -/
def compL2 (ok : Sto → Prop) (g : MG) (t : MT) (mi1 : MI) (vs1 : List Nat) (g1 : MG) (t1 : MT) (e : ME) (sd0 : Sg) (q : List D → Sto → Prop) : List D → List D → Sto → Prop
  | [], acc, S => ok S ∧ q acc S
  | d :: ds, acc, S => ok S ∧ g d sd0 S (fun sd1 S1 => t sd1 S1 (fun k S2 => if k = true then
      mi1 sd1 S2 (fun it S3 => compL it.ok g1 t1 e (wipeD sd1 vs1) (fun acc' S' => compL2 ok g t mi1 vs1 g1 t1 e sd0 q ds acc' S') it.items acc S3) noX
      else compL2 ok g t mi1 vs1 g1 t1 e sd0 q ds acc S2) noX)
def mComp2 (mi : MI) (vs : List Nat) (g : MG) (t : MT) (mi1 : MI) (vs1 : List Nat) (g1 : MG) (t1 : MT) (e : ME) : ME := fun sd S q x => mi sd S (fun it S1 => compL2 it.ok g t mi1 vs1 g1 t1 e (wipeD sd vs) (fun ys S2 => q (.ref S2.length) (S2 ++ [.lst ys])) it.items [] S1) x
theorem e_mComp2 {mi mi1 : MI} {vs vs1 : List Nat} {g g1 : MG} {t t1 : MT} {e : ME} {sd : Sg} {S : Sto} {q : QD} {x : QX} : mComp2 mi vs g t mi1 vs1 g1 t1 e sd S q x = mi sd S (fun it S1 => compL2 it.ok g t mi1 vs1 g1 t1 e (wipeD sd vs) (fun ys S2 => q (.ref S2.length) (S2 ++ [.lst ys])) it.items [] S1) x := Eq.trans rfl rfl
section
variable {X : Cx} {c : Cn} {mi mi1 : MI} {g g1 : MG} {t t1 : MT} {e : ME}
theorem RelG.monoW {K : PySem.W.Frag} {mg : Mg} {r r' : List Addr} {H H' : Hp} (x : Wk r H r' H') {sd : Sg} {s : L2.St} (h : RelG K mg r H sd s) : RelG K mg r' H' sd s :=
  ⟨h.len, fun i d e => by
    obtain ⟨v, h1, h2⟩ := h.at_ i d e
    exact ⟨v, h1, h2.monoW x⟩⟩
theorem Mid.putW {r1 r : List Addr} {H1 H : Hp} {D : Addr} {acc : List Lw.D} {S : Sto} {vs : List V} {v : V} (m : Mid c r1 H1 D acc r H S) (hD : H D = some (.lst vs)) : Wk r H r (upd H D (.lst (vs ++ [v]))) := by
  have ne : ∀ {b : Addr} {o : HO}, H b = some o → (∀ xs, o ≠ .lst xs) → b ≠ D := fun h q e => by
    rw [e, hD] at h; cases h
    exact q _ rfl
  exact ⟨fun _ _ h => h, fun a xs h => by rw [upd_ne (ne h (fun _ z => nomatch z))]; exact h, fun a o u h => by rw [upd_ne (ne h (fun _ z => nomatch z))]; exact h, fun a fs h => by rw [upd_ne (ne h (fun _ z => nomatch z))]; exact h⟩
theorem tLc2_of {vs vs1 : List Nat} {wi wi1 : TI} {gg gg1 : TG} (hw : ∀ s H R, tI c mi s H R → wi s H R) (ho : GOnly vs gg) (hl : GLe (Cn.blk c) g gg)
    (hw1 : ∀ s H R, tI (Cn.blk c) mi1 s H R → wi1 s H R) (ho1 : GOnly vs1 gg1) (hl1 : GLe (Cn.blk c) g1 gg1) :
    ∀ s H Q, tE c (mComp2 mi vs g t mi1 vs1 g1 t1 e) s H Q → tLc2 wi gg (tT (Cn.blk c) t) wi1 gg1 (tT (Cn.blk c) t1) (tE (Cn.blk c) e) vs vs1 s H Q := fun s H Q z => by
  obtain ⟨r, S, sd, q, x, a, hm, gv, gx⟩ := z
  refine hw _ _ _ ⟨r, S, sd, _, x, a, hm, fun im S1 r1 H1 J h1 u1 sm1 io D hD => ?_, gx⟩
  have rel1 := (a.rel.mono u1).wipe vs
  generalize hq' : (fun (ys : List Lw.D) (S2 : Sto) => q (.ref S2.length) (S2 ++ [.lst ys])) = q' at h1
  refine ⟨fun i m H' => i + m = im.items.length ∧ ∃ r' S' acc, Mid c r1 H1 D acc r' H' S' ∧ compL2 im.ok g t mi1 vs1 g1 t1 e (wipeD sd vs) q' (im.items.drop i) acc S',
    ⟨im.items.length, by omega, r1, S1, [], ⟨sm1.laid hD, sm1.fresh hD, hD, ⟨[], upd_same, .nil⟩, Stp.laid hD⟩, h1⟩, fun i m H2 w => ?_⟩
  obtain ⟨em, r2, S2, acc, md2, f2⟩ := w
  cases m with
  | zero =>
    have e0 : im.items.drop i = [] := List.drop_of_length_le (by omega)
    rw [e0] at f2
    obtain ⟨tD, smD⟩ := md2.done
    have f3 := f2.2
    rw [← hq'] at f3
    exact .inl ⟨io.stop i r2 H2 S2 md2.stp.toWk md2.sim f2.1 (by omega), gv _ _ _ _ _ f3 (u1.trans tD) smD (.ref (by rw [← md2.sim.len, List.getElem?_append_right (Nat.le_refl _)]; simp))⟩
  | succ m =>
    have hl2 : i < im.items.length := by omega
    rw [List.drop_eq_getElem_cons hl2] at f2
    generalize hrest : im.items.drop (i + 1) = rest at f2
    refine .inr ⟨io.go i r2 H2 S2 md2.stp.toWk md2.sim f2.1 hl2, fun H' => i + 1 + m = im.items.length ∧ ∃ r' S' acc, Mid c r1 H1 D acc r' H' S' ∧ compL2 im.ok g t mi1 vs1 g1 t1 e (wipeD sd vs) q' (im.items.drop (i + 1)) acc S',
      fun H' w => ⟨m, Nat.lt_succ_self m, w⟩, fun xv H3 hy => ?_⟩
    obtain ⟨t3, sm3, rd3⟩ := io.yld i _ xv r2 H2 H3 S2 md2.stp.toWk md2.sim f2.1 (List.getElem?_eq_getElem hl2) hy
    have md3 := md2.go t3 sm3
    have a3 : At (Cn.blk c) r2 S2 (wipeD sd vs) (wipe s vs) H3 := ⟨sm3, rel1.mono md3.stp, trivial⟩
    obtain ⟨_, f2⟩ := f2
    generalize hk : (fun (sd1 : Sg) (S1 : Sto) => t sd1 S1 (fun k S2 => if k = true then
      mi1 sd1 S2 (fun it S3 => compL it.ok g1 t1 e (wipeD sd1 vs1) (fun acc' S' => compL2 im.ok g t mi1 vs1 g1 t1 e (wipeD sd vs) q' rest acc' S') it.items acc S3) noX
      else compL2 im.ok g t mi1 vs1 g1 t1 e (wipeD sd vs) q' rest acc S2) noX) = kk at f2
    refine ho _ _ _ _ _ (hl _ _ _ _ ⟨r2, S2, _, _, kk, a3, rd3, f2, fun sd4 S4 r4 s4 H4 h4 t4 sm4 rl4 => (⟨r4, S4, sd4, h4, t4, sm4, rl4⟩ : ∃ r4 S4 sd4, kk sd4 S4 ∧ Stp r2 H3 r4 H4 ∧ c.Sm r4 H4 S4 ∧ RelG c.K c.mg r4 H4 sd4 s4)⟩) fun s4 H4 ew q4 => ?_
    obtain ⟨r4, S4, sd4, h4, t4, sm4, rl4⟩ := q4
    rw [← hk] at h4
    have md4 := md3.go t4 sm4
    refine ⟨ew.trans (wipe_idem vs), r4, S4, sd4, _, noX, ⟨sm4, rl4, trivial⟩, h4, fun k S5 r5 H5 h5 t5 sm5 => ?_, fun e S' r' H' cls dd h _ _ _ => h.elim⟩
    have md5 := md4.go t5 sm5
    have rl5 := rl4.mono t5
    cases k with
    | false => exact iteF ⟨by omega, r5, S5, acc, md5, by rw [hrest]; exact h5⟩
    | true =>
      refine iteT (hw1 _ _ _ ⟨r5, S5, sd4, _, noX, ⟨sm5, rl5, trivial⟩, h5, fun it6 S6 r6 H6 J6 h6 t6 sm6 io6 => ?_, fun e S' r' H' cls dd h _ _ _ => h.elim⟩)
      have md6 := md5.go t6 sm6
      have rl6 := (rl5.mono t6).wipe vs1
      refine ⟨fun j k H' => j + k = it6.items.length ∧ ∃ r' S' acc, Mid c r1 H1 D acc r' H' S' ∧ Wk r6 H6 r' H' ∧ compL it6.ok g1 t1 e (wipeD sd4 vs1) (fun acc' S' => compL2 im.ok g t mi1 vs1 g1 t1 e (wipeD sd vs) q' rest acc' S') (it6.items.drop j) acc S',
        ⟨it6.items.length, by omega, r6, S6, acc, md6, Wk.refl, h6⟩, fun j k H7 w7 => ?_⟩
      obtain ⟨ek, r7, S7, acc7, md7, wk7, f7⟩ := w7
      cases k with
      | zero =>
        have e0 : it6.items.drop j = [] := List.drop_of_length_le (by omega)
        rw [e0] at f7
        exact .inl ⟨io6.stop j r7 H7 S7 wk7 md7.sim f7.1 (by omega), by omega, r7, S7, acc7, md7, by rw [hrest]; exact f7.2⟩
      | succ k =>
        have hl7 : j < it6.items.length := by omega
        rw [List.drop_eq_getElem_cons hl7] at f7
        generalize hrest7 : it6.items.drop (j + 1) = rest7 at f7
        refine .inr ⟨io6.go j r7 H7 S7 wk7 md7.sim f7.1 hl7, fun H' => j + 1 + k = it6.items.length ∧ ∃ r' S' acc, Mid c r1 H1 D acc r' H' S' ∧ Wk r6 H6 r' H' ∧ compL it6.ok g1 t1 e (wipeD sd4 vs1) (fun acc' S' => compL2 im.ok g t mi1 vs1 g1 t1 e (wipeD sd vs) q' rest acc' S') (it6.items.drop (j + 1)) acc S',
          fun H' w => ⟨k, Nat.lt_succ_self k, w⟩, fun xv8 H8 hy8 => ?_⟩
        obtain ⟨t8, sm8, rd8⟩ := io6.yld j _ xv8 r7 H7 H8 S7 wk7 md7.sim f7.1 (List.getElem?_eq_getElem hl7) hy8
        have md8 := md7.go t8 sm8
        have wk8 := wk7.trans t8.toWk
        have a8 : At (Cn.blk c) r7 S7 (wipeD sd4 vs1) (wipe s4 vs1) H8 := ⟨sm8, rl6.monoW wk8, trivial⟩
        obtain ⟨_, f7⟩ := f7
        generalize hk8 : (fun (sd1 : Sg) (S1 : Sto) => t1 sd1 S1 (fun k S2 => if k = true then e sd1 S2 (fun y S3 => acc7.length < sizeLine ∧ compL it6.ok g1 t1 e (wipeD sd4 vs1) (fun acc' S' => compL2 im.ok g t mi1 vs1 g1 t1 e (wipeD sd vs) q' rest acc' S') rest7 (acc7 ++ [y]) S3) noX else compL it6.ok g1 t1 e (wipeD sd4 vs1) (fun acc' S' => compL2 im.ok g t mi1 vs1 g1 t1 e (wipeD sd vs) q' rest acc' S') rest7 acc7 S2) noX) = kk8 at f7
        refine ho1 _ _ _ _ _ (hl1 _ _ _ _ ⟨r7, S7, _, _, kk8, a8, rd8, f7, fun sd9 S9 r9 s9 H9 h9 t9 sm9 rl9 => (⟨r9, S9, sd9, h9, t9, sm9, rl9⟩ : ∃ r9 S9 sd9, kk8 sd9 S9 ∧ Stp r7 H8 r9 H9 ∧ c.Sm r9 H9 S9 ∧ RelG c.K c.mg r9 H9 sd9 s9)⟩) fun s9 H9 ew9 q9 => ?_
        obtain ⟨r9, S9, sd9, h9, t9, sm9, rl9⟩ := q9
        rw [← hk8] at h9
        have md9 := md8.go t9 sm9
        have wk9 := wk8.trans t9.toWk
        refine ⟨ew9.trans (wipe_idem vs1), r9, S9, sd9, _, noX, ⟨sm9, rl9, trivial⟩, h9, fun b S10 r10 H10 h10 t10 sm10 => ?_, fun e S' r' H' cls dd h _ _ _ => h.elim⟩
        have md10 := md9.go t10 sm10
        have wk10 := wk9.trans t10.toWk
        cases b with
        | false => exact iteF ⟨by omega, r10, S10, acc7, md10, wk10, by rw [hrest7]; exact h10⟩
        | true =>
          refine iteT ⟨r10, S10, sd9, _, noX, ⟨sm10, rl9.mono t10, trivial⟩, h10, fun y S11 r11 v11 H11 h11 t11 sm11 rd11 => ?_, fun e S' r' H' cls dd h _ _ _ => h.elim⟩
          have md11 := md10.go t11 sm11
          have wk11 := wk10.trans t11.toWk
          obtain ⟨vs11, hD11, rv11⟩ := md11.at_
          exact ⟨vs11, hD11, by rw [← rv11.length]; exact h11.1, by omega, r11, S11, acc7 ++ [y], md11.put hD11 rd11, wk11.trans (md11.putW hD11), by rw [hrest7]; exact h11.2⟩
theorem me_lc2 {elt tg iter tg1 iter1 : Expr} {ifs ifs1 : List Expr} {scope : Scope} {own : List (Str × Nat)} {vs1 : List Nat} {pos : Pos} {gg gg1 : TG} (hc : X.calm = true) (hN : X.N.Nodup) (hi : PI X tg iter (tI c mi)) (ok : BlkOk X.N X.env.scope scope own) (hv : ∀ i ∈ vs1, i ∈ own.map (·.2))
    (ho : GOnly (own.map (·.2)) gg) (hl : GLe (Cn.blk c) g gg) (ho1 : GOnly vs1 gg1) (hl1 : GLe (Cn.blk c) g1 gg1)
    (hg : ∀ (s : Shared) (H : Hp) (C : Addr) (cl : List (Str × Addr)) (fp : List Addr), PG (X.blk s H scope (compEnvC scope cl C X.env) fp) tg gg)
    (ht : ∀ (s : Shared) (H : Hp) (C : Addr) (cl : List (Str × Addr)) (fp : List Addr), PTs (X.blk s H scope (compEnvC scope cl C X.env) fp) ifs (tT (Cn.blk c) t))
    (hi1 : ∀ (s : Shared) (H : Hp) (C : Addr) (cl : List (Str × Addr)) (fp : List Addr), PI (X.blk s H scope (compEnvC scope cl C X.env) fp) tg1 iter1 (tI (Cn.blk c) mi1))
    (hg1 : ∀ (s : Shared) (H : Hp) (C : Addr) (cl : List (Str × Addr)) (fp : List Addr), PG (X.blk s H scope (compEnvC scope cl C X.env) fp) tg1 gg1)
    (ht1 : ∀ (s : Shared) (H : Hp) (C : Addr) (cl : List (Str × Addr)) (fp : List Addr), PTs (X.blk s H scope (compEnvC scope cl C X.env) fp) ifs1 (tT (Cn.blk c) t1))
    (he : ∀ (s : Shared) (H : Hp) (C : Addr) (cl : List (Str × Addr)) (fp : List Addr), PE (X.blk s H scope (compEnvC scope cl C X.env) fp) elt (tE (Cn.blk c) e)) (hs : ∀ x, foldedSetIterable iter X.env x = pure x := by intro _; rfl)
    (hs1 : ∀ env x, foldedSetIterable iter1 env x = pure x := by intro _ _; rfl) :
    PE X (.ListComp elt [⟨tg, iter, ifs, 0⟩, ⟨tg1, iter1, ifs1, 0⟩] scope pos) (tE c (mComp2 mi (own.map (·.2)) g t mi1 vs1 g1 t1 e)) :=
  weakE (pe_lc2 hc hN hi ok hv hg ht hi1 hg1 ht1 he hs hs1) (tLc2_of (fun _ _ _ z => z) ho hl (fun _ _ _ z => z) ho1 hl1)
theorem ms_setLc2 {i : Nat} {y : Str} {py : Pos} {elt tg iter tg1 iter1 : Expr} {ifs ifs1 : List Expr} {scope : Scope} {own : List (Str × Nat)} {vs1 : List Nat} {pos spos : Pos} {gg gg1 : TG} (hc : X.calm = true) (hN : X.N.Nodup) (hy : X.N[i]? = some y) (hyl : X.env.scope.names.lookup y = some .local)
    (hsw : swapsWith (.ListComp elt [⟨tg, iter, ifs, 0⟩, ⟨tg1, iter1, ifs1, 0⟩] scope pos) (some (.Name y py)) spos.line X.env = pure true) (hi : PI X tg iter (tI c mi)) (ok : BlkOk X.N X.env.scope scope own) (hv : ∀ i ∈ vs1, i ∈ own.map (·.2))
    (ho : GOnly (own.map (·.2)) gg) (hl : GLe (Cn.blk c) g gg) (ho1 : GOnly vs1 gg1) (hl1 : GLe (Cn.blk c) g1 gg1)
    (hg : ∀ (s : Shared) (H : Hp) (C : Addr) (cl : List (Str × Addr)) (fp : List Addr), PG (X.blk s H scope (compEnvC scope cl C X.env) fp) tg gg)
    (ht : ∀ (s : Shared) (H : Hp) (C : Addr) (cl : List (Str × Addr)) (fp : List Addr), PTs (X.blk s H scope (compEnvC scope cl C X.env) fp) ifs (tT (Cn.blk c) t))
    (hi1 : ∀ (s : Shared) (H : Hp) (C : Addr) (cl : List (Str × Addr)) (fp : List Addr), PI (X.blk s H scope (compEnvC scope cl C X.env) fp) tg1 iter1 (tI (Cn.blk c) mi1))
    (hg1 : ∀ (s : Shared) (H : Hp) (C : Addr) (cl : List (Str × Addr)) (fp : List Addr), PG (X.blk s H scope (compEnvC scope cl C X.env) fp) tg1 gg1)
    (ht1 : ∀ (s : Shared) (H : Hp) (C : Addr) (cl : List (Str × Addr)) (fp : List Addr), PTs (X.blk s H scope (compEnvC scope cl C X.env) fp) ifs1 (tT (Cn.blk c) t1))
    (he : ∀ (s : Shared) (H : Hp) (C : Addr) (cl : List (Str × Addr)) (fp : List Addr), PE (X.blk s H scope (compEnvC scope cl C X.env) fp) elt (tE (Cn.blk c) e)) (hs : ∀ x, foldedSetIterable iter X.env x = pure x := by intro _; rfl)
    (hs1 : ∀ env x, foldedSetIterable iter1 env x = pure x := by intro _ _; rfl) :
    PS X (.Assign [.Name y py] (.ListComp elt [⟨tg, iter, ifs, 0⟩, ⟨tg1, iter1, ifs1, 0⟩] scope pos) spos) (tS c (mAsg (mComp2 mi (own.map (·.2)) g t mi1 vs1 g1 t1 e) (gmName i))) := weakS (ps_setLc2 hc hN hy hyl hsw hi ok hv hg ht hi1 hg1 ht1 he hs hs1) fun D s H z => by
  obtain ⟨r, S, sd, md, a, hm, gk⟩ := z
  refine tLc2_of (c := c) (fun _ _ _ z => z) ho hl (fun _ _ _ z => z) ho1 hl1 s H _ ⟨r, S, sd, _, _, a, hm, fun d S1 r1 v H1 h t sm rd => ?_, goX_of gk a.rel⟩
  exact gk.nx _ S1 r1 _ H1 h t sm ((a.rel.mono t).put rd)
end
/-! ### list(range(n)), list(range(i, j)) -/
theorem rangeD_map : ∀ (n : Nat) (lo : Int), rangeD lo n = ((List.range n).map fun i => lo + (i : Nat)).map D.int
  | 0, _ => rfl
  | n + 1, lo => by
    unfold rangeD
    rw [rangeD_map n (lo + 1), List.range_succ_eq_map]
    simp [Function.comp_def]
    intro a _
    omega
def mLstRg1 (m : ME) : ME := fun sd S q x => m sd S (fun d S1 => match d with
  | .int n => (-(2 ^ 62) ≤ n ∧ n ≤ 16777216) ∧ q (.ref S1.length) (S1 ++ [.lst (rangeD 0 n.toNat)])
  | _ => False) x
theorem e_mLstRg1 {m : ME} {sd : Sg} {S : Sto} {q : QD} {x : QX} : mLstRg1 m sd S q x = m sd S (fun d S1 => match d with
  | .int n => (-(2 ^ 62) ≤ n ∧ n ≤ 16777216) ∧ q (.ref S1.length) (S1 ++ [.lst (rangeD 0 n.toNat)])
  | _ => False) x := Eq.trans rfl rfl
section
variable {X : Cx} {c : Cn} {m : ME} {e : Expr}
theorem me_lstRg1 {p1 p2 q1 q2 : Pos} (hc : X.calm = true) (hg1 : Gl X "list") (hm1 : X.mg "list" = none) (hg2 : Gl X "range") (hm2 : X.mg "range" = none) (h : PE X e (tE c m))
    (hs : starEach [e] X.env = [(false, eval e X.env)] := by rfl) (hs2 : starEach [.Call (.Name "range" p2) [e] [] q2] X.env = [(false, eval (.Call (.Name "range" p2) [e] [] q2) X.env)] := by rfl) :
    PE X (.Call (.Name "list" p1) [.Call (.Name "range" p2) [e] [] q2] [] q1) (tE c (mLstRg1 m)) := by
  refine weakE (pe_listRg hc hg1 hm1 (prg_1 hg2 hm2 h hs) hs2) fun s H Q z => ?_
  obtain ⟨r, S, sd, q, x, a, hm, gv, gx⟩ := z
  refine ⟨r, S, sd, _, x, a, hm, fun d S1 r1 v H1 h1 t1 s1 rd1 => ?_, gx⟩
  dsimp only at h1 ⊢
  split at h1
  · rename_i n
    cases rd1
    refine ⟨n, rfl, ⟨by omega, by omega, by omega, by omega, by omega⟩, fun p np => ?_⟩
    obtain ⟨t3, s3, r3⟩ := new_lst (c := c) s1 (ds := rangeD 0 n.toNat) (vs := rgV 0 n) (by
      rw [rangeD_map]
      unfold rgV
      have := RelDs.ofInts (K := c.K) (mg := c.mg) (r := r1) (H := H1) ((List.range n.toNat).map fun i => (0 : Int) + (i : Nat))
      simpa [Function.comp_def] using this) np
    exact gv _ _ _ _ _ h1.2 (t1.trans t3) s3 r3
  · exact h1.elim
end
/-! ### the equation of range(a, b, c) -/
theorem e_miRange3 {m : MA} {sd : Sg} {S : Sto} {q : Itm → Sto → Prop} {x : QX} : miRange3 m sd S q x = m sd S (fun ds S1 => match ds with
  | [.int i, .int j, .int c] => ∃ n, RgC i j c n ∧ q ⟨rangeC i c n, fun _ => True⟩ S1
  | _ => False) x := Eq.trans rfl rfl
end Lw

namespace Lw
open PySem PySem.Spec PyProof.Rows L2

/-! ### own exceptions over OverflowError -/
theorem eb_OverflowError : EBase "OverflowError" "OverflowError.__new__" "OverflowError.__init__" [.type "OverflowError", .type "ArithmeticError", .type "Exception", .type "BaseException", .type "object"] := ⟨PySem.F.excBase_OverflowError, fun self => by kernel_rfl, by decide⟩
theorem ty_OverflowError : typeOf (.type "OverflowError") = pure (.type "type") := by kernel_rfl
theorem st_OverflowError : Manifest.isStub "OverflowError" = false := by decide +kernel
theorem bo_OverflowError : bootBuiltins "OverflowError" = some (.type "OverflowError") := by decide +kernel
end Lw

namespace Lw
open PySem PySem.Spec PyProof.Rows L2

/-! ### {e: e2}, ints; {} -/
def mDic1 (mk mv : ME) : ME := fun sd S q x => mk sd S (fun d S1 => mv sd S1 (fun e S2 => match d, e with
  | .int i, .int j => q (.ref S2.length) (S2 ++ [.dic [(.int i, .int j)]])
  | _, _ => False) x) x
def mDic0 : ME := fun sd S q x => q (.ref S.length) (S ++ [.dic []])
theorem e_mDic1 {mk mv : ME} {sd : Sg} {S : Sto} {q : QD} {x : QX} : mDic1 mk mv sd S q x = mk sd S (fun d S1 => mv sd S1 (fun e S2 => match d, e with
  | .int i, .int j => q (.ref S2.length) (S2 ++ [.dic [(.int i, .int j)]])
  | _, _ => False) x) x := Eq.trans rfl rfl
theorem e_mDic0 {sd : Sg} {S : Sto} {q : QD} {x : QX} : mDic0 sd S q x = q (.ref S.length) (S ++ [.dic []]) := Eq.trans rfl rfl
section
variable {X : Cx} {c : Cn} {mk mv : ME} {k v : Expr} {pos : Pos}
theorem dic_new {r r2 : List Addr} {H H2 : Hp} {S2 : Sto} {p : Addr} {ks : List (Int × Int)} (np : H p = none) (nr : p ∉ r) (t : Stp r (upd H p (.dK [])) r2 H2) (sm : c.Sm r2 H2 S2) :
    Stp r H (r2 ++ [p]) (upd H2 p (.dK (ks.map fun q => (Sum.inl q.1, V.int q.2)))) ∧ c.Sm (r2 ++ [p]) (upd H2 p (.dK (ks.map fun q => (Sum.inl q.1, V.int q.2)))) (S2 ++ [.dic (ks.map fun q => (D.int q.1, D.int q.2))]) ∧
    c.Rd (r2 ++ [p]) (upd H2 p (.dK (ks.map fun q => (Sum.inl q.1, V.int q.2)))) (.ref S2.length) (.ref p) := by
  have hp : H2 p = some (.dK []) := t.out p _ upd_same nr
  have nr2 : p ∉ r2 := fun h => by
    have z := t.new p h nr
    rw [upd_same] at z
    cases z
  have ne : ∀ {b : Addr} {o : HO}, H2 b = some o → (∀ xs, o ≠ .dK xs) → b ≠ p := fun h q e => by
    rw [e, hp] at h
    cases h
    exact q _ rfl
  have w2 : Wk r2 H2 (r2 ++ [p]) (upd H2 p (.dK (ks.map fun q => (Sum.inl q.1, V.int q.2)))) := ⟨fun i a h => by
    have hl : i < r2.length := (List.getElem?_eq_some_iff.mp h).1
    rw [List.getElem?_append_left hl]; exact h, fun a xs h => by rw [upd_ne (ne h (fun _ z => nomatch z))]; exact h, fun a o u h => by rw [upd_ne (ne h (fun _ z => nomatch z))]; exact h, fun a fs h => by rw [upd_ne (ne h (fun _ z => nomatch z))]; exact h⟩
  have w1 : Wk r H r (upd H p (.dK [])) := (Stp.laid np).toWk
  refine ⟨⟨(w1.trans t.toWk).trans w2, fun a h q => ?_, fun a o h q => ?_⟩, ⟨by simp [sm.len], ?_, fun i o a h1 h2 => ?_⟩, .ref (by rw [← sm.len, List.getElem?_append_right (Nat.le_refl _)]; simp)⟩
  · rcases List.mem_append.mp h with h | h
    · have z := t.new a h q
      by_cases e : a = p
      · rw [e]; exact np
      · rw [upd_ne e] at z
        exact z
    · have e : a = p := by simpa using h
      rw [e]; exact np
  · have e : a ≠ p := fun e => by rw [e, np] at h; cases h
    rw [upd_ne e]
    exact t.out a o (by rw [upd_ne e]; exact h) q
  · refine List.nodup_append.mpr ⟨sm.nd, by simp, fun a ha b hb e => ?_⟩
    have eb : b = p := by simpa using hb
    subst eb; subst e
    exact nr2 ha
  · by_cases hl : i < S2.length
    · have hl' : i < r2.length := by rw [sm.len]; exact hl
      rw [List.getElem?_append_left hl] at h1
      rw [List.getElem?_append_left hl'] at h2
      have na : a ≠ p := fun e => nr2 (by rw [← e]; exact List.mem_iff_getElem?.mpr ⟨i, h2⟩)
      exact (sm.obj i o a h1 h2).mono' w2 (upd_ne na) fun dx h => by rw [upd_ne (ne h (fun _ z => nomatch z))]; exact h
    · have e : i = S2.length := by
        have := (List.getElem?_eq_some_iff.mp h1).1
        simp at this; omega
      subst e
      rw [List.getElem?_append_right (Nat.le_refl _)] at h1
      rw [← sm.len, List.getElem?_append_right (Nat.le_refl _)] at h2
      simp at h1 h2
      subst h1; subst h2
      exact .dic rfl upd_same
theorem me_dic1 (hk : PE X k (tE c mk)) (hv : PE X v (tE c mv)) : PE X (.Dict [some k] [v] pos) (tE c (mDic1 mk mv)) := weakE (pe_disp (pps_cons hk hv pps_nil) rfl rfl (by simp) (by simp)) fun s H Q z => by
  obtain ⟨r, S, sd, q, x, a, hm, gv, gx⟩ := z
  intro p np
  have t0 : Stp r H r (upd H p (.dK [])) := Stp.laid np
  have nr := a.sim.fresh np
  refine ⟨r, S, sd, _, x, a.step t0 (a.sim.laid np), hm, fun d S1 r1 u H1 h1 t1 s1 rd1 => ?_, gx.step t0⟩
  refine ⟨r1, S1, sd, _, x, (a.step t0 (a.sim.laid np)).step t1 s1, h1, fun e S2 r2 u2 H2 h2 t2 s2 rd2 => ?_, (gx.step t0).step t1⟩
  unfold tPairs
  dsimp only at h2 ⊢
  split at h2
  · rename_i i j
    cases rd1
    cases rd2
    obtain ⟨t3, s3, r3⟩ := dic_new (c := c) (ks := [(i, j)]) np nr (t1.trans t2) s2
    exact ⟨(t1.trans t2).out p _ upd_same nr, [(Sum.inl i, V.int j)], rfl, by simp, gv _ _ _ _ _ h2 t3 s3 r3⟩
  · exact h2.elim
theorem me_dic0 : PE X (.Dict [] [] pos) (tE c mDic0) := weakE pe_dnewK fun s H Q z => by
  obtain ⟨r, S, sd, q, x, a, hm, gv, gx⟩ := z
  intro p np
  have t0 : Stp r H r (upd H p (.dK [])) := Stp.laid np
  obtain ⟨t3, s3, r3⟩ := dic_new (c := c) (ks := []) np (a.sim.fresh np) Stp.refl (a.sim.laid np)
  have e : upd (upd H p (.dK [])) p (.dK (([] : List (Int × Int)).map fun q => (Sum.inl q.1, V.int q.2))) = upd H p (.dK []) := by
    rw [upd_upd]; rfl
  rw [e] at t3 s3 r3
  exact gv _ _ _ _ _ hm t3 s3 r3
end
end Lw

namespace Lw
open PySem PySem.Spec PyProof.Rows L2
/-! ### the classes, the tables -/
def CLS : List Str := ["Moments"]
/-! ### what the defs do -/
theorem x_b__law_source_1 : ∃ m : MS, m = (mSeq (mIfS (mtB (mOp mLt (mVar 3) (mOp mPow (mC (.int (10))) (mC (.int (18)))))) (mAsg (mC (.int (0))) (gmName 3)) mNext) (mRet (mLst (maCons (mVar 3) (maCons (mVar 4) maNil))))) := ⟨_, rfl⟩
noncomputable def b__law_source_1 : MS := Classical.choose x_b__law_source_1
theorem e_b__law_source_1 : b__law_source_1 = (mSeq (mIfS (mtB (mOp mLt (mVar 3) (mOp mPow (mC (.int (10))) (mC (.int (18)))))) (mAsg (mC (.int (0))) (gmName 3)) mNext) (mRet (mLst (maCons (mVar 3) (maCons (mVar 4) maNil))))) := Classical.choose_spec x_b__law_source_1
theorem x_b__law_source_2 : ∃ m : MS, m = (mSeq (mAsg (mOp mMod (mOp mAdd (mOp mAdd (mOp mMul (mOp mMod (mVar 3) (mC (.int (2147483629)))) (mC (.int (16807)))) (mOp mMul (mC (.int (104729))) (mVar 1))) (mC (.int (11)))) (mC (.int (2147483647)))) (gmName 4)) b__law_source_1) := ⟨_, rfl⟩
noncomputable def b__law_source_2 : MS := Classical.choose x_b__law_source_2
theorem e_b__law_source_2 : b__law_source_2 = (mSeq (mAsg (mOp mMod (mOp mAdd (mOp mAdd (mOp mMul (mOp mMod (mVar 3) (mC (.int (2147483629)))) (mC (.int (16807)))) (mOp mMul (mC (.int (104729))) (mVar 1))) (mC (.int (11)))) (mC (.int (2147483647)))) (gmName 4)) b__law_source_1) := Classical.choose_spec x_b__law_source_2
theorem x_b__law_source_3 : ∃ m : MS, m = (mSeq (mAsg (mFn fMax2 (maCons (mVar 2) (maCons (mOp mSub (mNeg (mC (.int (1)))) (mVar 2)) maNil))) (gmName 3)) b__law_source_2) := ⟨_, rfl⟩
noncomputable def b__law_source_3 : MS := Classical.choose x_b__law_source_3
theorem e_b__law_source_3 : b__law_source_3 = (mSeq (mAsg (mFn fMax2 (maCons (mVar 2) (maCons (mOp mSub (mNeg (mC (.int (1)))) (mVar 2)) maNil))) (gmName 3)) b__law_source_2) := Classical.choose_spec x_b__law_source_3
theorem x_b__law_source_4 : ∃ m : MS, m = (mSeq (mIfS (mtB (mOp mLt (mVar 1) (mFn fLen (maCons (mVar 0) maNil)))) (mAsg (mOp mIx (mVar 0) (mVar 1)) (gmName 2)) mNext) b__law_source_3) := ⟨_, rfl⟩
noncomputable def b__law_source_4 : MS := Classical.choose x_b__law_source_4
theorem e_b__law_source_4 : b__law_source_4 = (mSeq (mIfS (mtB (mOp mLt (mVar 1) (mFn fLen (maCons (mVar 0) maNil)))) (mAsg (mOp mIx (mVar 0) (mVar 1)) (gmName 2)) mNext) b__law_source_3) := Classical.choose_spec x_b__law_source_4
theorem x_b__law_source : ∃ m : MS, m = (mSeq (mAsg (mC (.int (0))) (gmName 2)) b__law_source_4) := ⟨_, rfl⟩
noncomputable def b__law_source : MS := Classical.choose x_b__law_source
theorem e_b__law_source : b__law_source = (mSeq (mAsg (mC (.int (0))) (gmName 2)) b__law_source_4) := Classical.choose_spec x_b__law_source
theorem x_u__law_source : ∃ m : Spec, m = body 2 5 b__law_source := ⟨_, rfl⟩
noncomputable def u__law_source : Spec := Classical.choose x_u__law_source
theorem e_u__law_source : u__law_source = body 2 5 b__law_source := Classical.choose_spec x_u__law_source
theorem x_b__law_draw_1 : ∃ m : MS, m = (mSeq (mAsg (mOp mFdiv (mOp mIx (mVar 0) (mC (.int (0)))) (mVar 1)) (gmSub (mVar 0) (mC (.int (0))))) (mRet (mVar 2))) := ⟨_, rfl⟩
noncomputable def b__law_draw_1 : MS := Classical.choose x_b__law_draw_1
theorem e_b__law_draw_1 : b__law_draw_1 = (mSeq (mAsg (mOp mFdiv (mOp mIx (mVar 0) (mC (.int (0)))) (mVar 1)) (gmSub (mVar 0) (mC (.int (0))))) (mRet (mVar 2))) := Classical.choose_spec x_b__law_draw_1
theorem x_b__law_draw_2 : ∃ m : MS, m = (mSeq (mAsg (mOp mMod (mOp mIx (mVar 0) (mC (.int (0)))) (mVar 1)) (gmName 2)) b__law_draw_1) := ⟨_, rfl⟩
noncomputable def b__law_draw_2 : MS := Classical.choose x_b__law_draw_2
theorem e_b__law_draw_2 : b__law_draw_2 = (mSeq (mAsg (mOp mMod (mOp mIx (mVar 0) (mC (.int (0)))) (mVar 1)) (gmName 2)) b__law_draw_1) := Classical.choose_spec x_b__law_draw_2
theorem x_b__law_draw_3 : ∃ m : MS, m = (mSeq (mAsg (mOp mMod (mOp mAdd (mOp mMul (mOp mIx (mVar 0) (mC (.int (1)))) (mC (.int (48271)))) (mC (.int (11)))) (mC (.int (2147483647)))) (gmSub (mVar 0) (mC (.int (1))))) (mRet (mOp mMod (mOp mFdiv (mOp mMod (mOp mMul (mOp mIx (mVar 0) (mC (.int (1)))) (mOp mIx (mVar 0) (mC (.int (1))))) (mC (.int (2147483629)))) (mC (.int (64)))) (mVar 1)))) := ⟨_, rfl⟩
noncomputable def b__law_draw_3 : MS := Classical.choose x_b__law_draw_3
theorem e_b__law_draw_3 : b__law_draw_3 = (mSeq (mAsg (mOp mMod (mOp mAdd (mOp mMul (mOp mIx (mVar 0) (mC (.int (1)))) (mC (.int (48271)))) (mC (.int (11)))) (mC (.int (2147483647)))) (gmSub (mVar 0) (mC (.int (1))))) (mRet (mOp mMod (mOp mFdiv (mOp mMod (mOp mMul (mOp mIx (mVar 0) (mC (.int (1)))) (mOp mIx (mVar 0) (mC (.int (1))))) (mC (.int (2147483629)))) (mC (.int (64)))) (mVar 1)))) := Classical.choose_spec x_b__law_draw_3
theorem x_b__law_draw : ∃ m : MS, m = (mSeq (mIfS (mtB (mOp mGt (mOp mIx (mVar 0) (mC (.int (0)))) (mC (.int (0))))) b__law_draw_2 mNext) b__law_draw_3) := ⟨_, rfl⟩
noncomputable def b__law_draw : MS := Classical.choose x_b__law_draw
theorem e_b__law_draw : b__law_draw = (mSeq (mIfS (mtB (mOp mGt (mOp mIx (mVar 0) (mC (.int (0)))) (mC (.int (0))))) b__law_draw_2 mNext) b__law_draw_3) := Classical.choose_spec x_b__law_draw
theorem x_u__law_draw : ∃ m : Spec, m = body 2 3 b__law_draw := ⟨_, rfl⟩
noncomputable def u__law_draw : Spec := Classical.choose x_u__law_draw
theorem e_u__law_draw : u__law_draw = body 2 3 b__law_draw := Classical.choose_spec x_u__law_draw
theorem x_b__law_some : ∃ m : MS, m = (mSeq (mAsg (mComp (miRange1 (maCons (mCall u__law_draw [] (maCons (mVar 0) (maCons (mVar 2) maNil))) maNil)) [4] (gmName 4) mtYes (mCall u__law_draw [] (maCons (mVar 0) (maCons (mVar 1) maNil)))) (gmName 3)) (mRet (mSortedSet (mVar 3)))) := ⟨_, rfl⟩
noncomputable def b__law_some : MS := Classical.choose x_b__law_some
theorem e_b__law_some : b__law_some = (mSeq (mAsg (mComp (miRange1 (maCons (mCall u__law_draw [] (maCons (mVar 0) (maCons (mVar 2) maNil))) maNil)) [4] (gmName 4) mtYes (mCall u__law_draw [] (maCons (mVar 0) (maCons (mVar 1) maNil)))) (gmName 3)) (mRet (mSortedSet (mVar 3)))) := Classical.choose_spec x_b__law_some
theorem x_u__law_some : ∃ m : Spec, m = body 3 5 b__law_some := ⟨_, rfl⟩
noncomputable def u__law_some : Spec := Classical.choose x_u__law_some
theorem e_u__law_some : u__law_some = body 3 5 b__law_some := Classical.choose_spec x_u__law_some
theorem x_b__law_periodic_right_1 : ∃ m : MS, m = (mAsg (mOp mAdd (mVar 4) (mComp (miLst (mVar 3)) [9] (gmName 9) mtYes (mOp mAdd (mVar 9) (mOp mMul (mVar 1) (mVar 5))))) (gmName 4)) := ⟨_, rfl⟩
noncomputable def b__law_periodic_right_1 : MS := Classical.choose x_b__law_periodic_right_1
theorem e_b__law_periodic_right_1 : b__law_periodic_right_1 = (mAsg (mOp mAdd (mVar 4) (mComp (miLst (mVar 3)) [9] (gmName 9) mtYes (mOp mAdd (mVar 9) (mOp mMul (mVar 1) (mVar 5))))) (gmName 4)) := Classical.choose_spec x_b__law_periodic_right_1
theorem x_b_is_integer : ∃ m : MS, m = (mRet (mAnd (mIsiB "int" CLS (mVar 0)) (mNotB (mtT (mIsiB "bool" CLS (mVar 0)))))) := ⟨_, rfl⟩
noncomputable def b_is_integer : MS := Classical.choose x_b_is_integer
theorem e_b_is_integer : b_is_integer = (mRet (mAnd (mIsiB "int" CLS (mVar 0)) (mNotB (mtT (mIsiB "bool" CLS (mVar 0)))))) := Classical.choose_spec x_b_is_integer
theorem x_u_is_integer : ∃ m : Spec, m = body 1 1 b_is_integer := ⟨_, rfl⟩
noncomputable def u_is_integer : Spec := Classical.choose x_u_is_integer
theorem e_u_is_integer : u_is_integer = body 1 1 b_is_integer := Classical.choose_spec x_u_is_integer
theorem x_b_are_firsts_1 : ∃ m : MS, m = (mSeq (mIfS (mtNot (mtB (mFn fAll (maCons (mComp (miAny (mVar 0)) [1] (gmName 1) mtYes (mAnd (mCall u_is_integer [] (maCons (mVar 1) maNil)) (mOp mGe (mVar 1) (mC (.int (0)))))) maNil)))) (mRet (mC (.bl false))) mNext) (mRet (mFn fAll (maCons (mComp (miZip (maCons (mVar 0) (maCons (mSl (mVar 0) (some (mC (.int (1)))) none) maNil))) [2, 3] (gmTup 2 (gmCons (gmName 2) (gmCons (gmName 3) gmNil))) mtYes (mOp mLt (mVar 2) (mVar 3))) maNil)))) := ⟨_, rfl⟩
noncomputable def b_are_firsts_1 : MS := Classical.choose x_b_are_firsts_1
theorem e_b_are_firsts_1 : b_are_firsts_1 = (mSeq (mIfS (mtNot (mtB (mFn fAll (maCons (mComp (miAny (mVar 0)) [1] (gmName 1) mtYes (mAnd (mCall u_is_integer [] (maCons (mVar 1) maNil)) (mOp mGe (mVar 1) (mC (.int (0)))))) maNil)))) (mRet (mC (.bl false))) mNext) (mRet (mFn fAll (maCons (mComp (miZip (maCons (mVar 0) (maCons (mSl (mVar 0) (some (mC (.int (1)))) none) maNil))) [2, 3] (gmTup 2 (gmCons (gmName 2) (gmCons (gmName 3) gmNil))) mtYes (mOp mLt (mVar 2) (mVar 3))) maNil)))) := Classical.choose_spec x_b_are_firsts_1
theorem x_b_are_firsts : ∃ m : MS, m = (mSeq (mIfS (mtOr (mtNot (mtB (mIsi2 "list" "tuple" CLS (mVar 0)))) (mtB (mOp mGt (mFn fLen (maCons (mVar 0) maNil)) (mC (.int (2000)))))) (mRet (mC (.bl false))) mNext) b_are_firsts_1) := ⟨_, rfl⟩
noncomputable def b_are_firsts : MS := Classical.choose x_b_are_firsts
theorem e_b_are_firsts : b_are_firsts = (mSeq (mIfS (mtOr (mtNot (mtB (mIsi2 "list" "tuple" CLS (mVar 0)))) (mtB (mOp mGt (mFn fLen (maCons (mVar 0) maNil)) (mC (.int (2000)))))) (mRet (mC (.bl false))) mNext) b_are_firsts_1) := Classical.choose_spec x_b_are_firsts
theorem x_u_are_firsts : ∃ m : Spec, m = body 1 4 b_are_firsts := ⟨_, rfl⟩
noncomputable def u_are_firsts : Spec := Classical.choose x_u_are_firsts
theorem e_u_are_firsts : u_are_firsts = body 1 4 b_are_firsts := Classical.choose_spec x_u_are_firsts
theorem x_b_check_least : ∃ m : MS, m = (mIfS (mtOr (mtNot (mtB (mCall u_is_integer [] (maCons (mVar 0) maNil)))) (mtB (mOp mLt (mVar 0) (mVar 1)))) (mRaise "InvalidNumber" ["given"] (maCons (mVar 0) maNil)) mNext) := ⟨_, rfl⟩
noncomputable def b_check_least : MS := Classical.choose x_b_check_least
theorem e_b_check_least : b_check_least = (mIfS (mtOr (mtNot (mtB (mCall u_is_integer [] (maCons (mVar 0) maNil)))) (mtB (mOp mLt (mVar 0) (mVar 1)))) (mRaise "InvalidNumber" ["given"] (maCons (mVar 0) maNil)) mNext) := Classical.choose_spec x_b_check_least
theorem x_u_check_least : ∃ m : Spec, m = body 2 2 b_check_least := ⟨_, rfl⟩
noncomputable def u_check_least : Spec := Classical.choose x_u_check_least
theorem e_u_check_least : u_check_least = body 2 2 b_check_least := Classical.choose_spec x_u_check_least
theorem x_b_least_period_1 : ∃ m : MS, m = (mIfS (mtB (mOp mEq (mVar 0) (mFn fTuple (maCons (mComp2 (miRange1 (maCons (mVar 2) maNil)) [5, 6] (gmName 5) mtYes (miAny (mVar 4)) [6] (gmName 6) mtYes (mOp mAdd (mVar 6) (mOp mMul (mVar 5) (mVar 3)))) maNil)))) (mRet (mVar 3)) mNext) := ⟨_, rfl⟩
noncomputable def b_least_period_1 : MS := Classical.choose x_b_least_period_1
theorem e_b_least_period_1 : b_least_period_1 = (mIfS (mtB (mOp mEq (mVar 0) (mFn fTuple (maCons (mComp2 (miRange1 (maCons (mVar 2) maNil)) [5, 6] (gmName 5) mtYes (miAny (mVar 4)) [6] (gmName 6) mtYes (mOp mAdd (mVar 6) (mOp mMul (mVar 5) (mVar 3)))) maNil)))) (mRet (mVar 3)) mNext) := Classical.choose_spec x_b_least_period_1
theorem x_b_least_period_2 : ∃ m : MS, m = (mSeq (mAsg (mSl (mVar 0) none (some (mOp mFdiv (mFn fLen (maCons (mVar 0) maNil)) (mVar 2)))) (gmName 4)) b_least_period_1) := ⟨_, rfl⟩
noncomputable def b_least_period_2 : MS := Classical.choose x_b_least_period_2
theorem e_b_least_period_2 : b_least_period_2 = (mSeq (mAsg (mSl (mVar 0) none (some (mOp mFdiv (mFn fLen (maCons (mVar 0) maNil)) (mVar 2)))) (gmName 4)) b_least_period_1) := Classical.choose_spec x_b_least_period_2
theorem x_b_least_period_3 : ∃ m : MS, m = (mSeq (mAsg (mOp mFdiv (mVar 1) (mVar 2)) (gmName 3)) b_least_period_2) := ⟨_, rfl⟩
noncomputable def b_least_period_3 : MS := Classical.choose x_b_least_period_3
theorem e_b_least_period_3 : b_least_period_3 = (mSeq (mAsg (mOp mFdiv (mVar 1) (mVar 2)) (gmName 3)) b_least_period_2) := Classical.choose_spec x_b_least_period_3
theorem x_b_least_period_4 : ∃ m : MS, m = (mIfS (mtAnd (mtB (mOp mEq (mOp mMod (mFn fLen (maCons (mVar 0) maNil)) (mVar 2)) (mC (.int (0))))) (mtB (mOp mEq (mOp mMod (mVar 1) (mVar 2)) (mC (.int (0)))))) b_least_period_3 mNext) := ⟨_, rfl⟩
noncomputable def b_least_period_4 : MS := Classical.choose x_b_least_period_4
theorem e_b_least_period_4 : b_least_period_4 = (mIfS (mtAnd (mtB (mOp mEq (mOp mMod (mFn fLen (maCons (mVar 0) maNil)) (mVar 2)) (mC (.int (0))))) (mtB (mOp mEq (mOp mMod (mVar 1) (mVar 2)) (mC (.int (0)))))) b_least_period_3 mNext) := Classical.choose_spec x_b_least_period_4
theorem x_b_least_period : ∃ m : MS, m = (mSeq (mFor (miRange3 (maCons (mFn fLen (maCons (mVar 0) maNil)) (maCons (mC (.int (0))) (maCons (mNeg (mC (.int (1)))) maNil)))) (gmName 2) b_least_period_4) (mRet (mVar 1))) := ⟨_, rfl⟩
noncomputable def b_least_period : MS := Classical.choose x_b_least_period
theorem e_b_least_period : b_least_period = (mSeq (mFor (miRange3 (maCons (mFn fLen (maCons (mVar 0) maNil)) (maCons (mC (.int (0))) (maCons (mNeg (mC (.int (1)))) maNil)))) (gmName 2) b_least_period_4) (mRet (mVar 1))) := Classical.choose_spec x_b_least_period
theorem x_u_least_period : ∃ m : Spec, m = body 2 7 b_least_period := ⟨_, rfl⟩
noncomputable def u_least_period : Spec := Classical.choose x_u_least_period
theorem e_u_least_period : u_least_period = body 2 7 b_least_period := Classical.choose_spec x_u_least_period
theorem x_b_Moments_init_1 : ∃ m : MS, m = (mSetF "Moments" "own_firsts" (mVar 0) (mFn fTuple (maCons (mComp (miAny (mVar 1)) [3] (gmName 3) (mtB (mOp mLt (mVar 3) (mFld "Moments" "own_period" (mVar 0)))) (mVar 3)) maNil))) := ⟨_, rfl⟩
noncomputable def b_Moments_init_1 : MS := Classical.choose x_b_Moments_init_1
theorem e_b_Moments_init_1 : b_Moments_init_1 = (mSetF "Moments" "own_firsts" (mVar 0) (mFn fTuple (maCons (mComp (miAny (mVar 1)) [3] (gmName 3) (mtB (mOp mLt (mVar 3) (mFld "Moments" "own_period" (mVar 0)))) (mVar 3)) maNil))) := Classical.choose_spec x_b_Moments_init_1
theorem x_b_Moments_init_2 : ∃ m : MS, m = (mSeq (mSetF "Moments" "own_period" (mVar 0) (mCall u_least_period [] (maCons (mFld "Moments" "own_firsts" (mVar 0)) (maCons (mVar 2) maNil)))) b_Moments_init_1) := ⟨_, rfl⟩
noncomputable def b_Moments_init_2 : MS := Classical.choose x_b_Moments_init_2
theorem e_b_Moments_init_2 : b_Moments_init_2 = (mSeq (mSetF "Moments" "own_period" (mVar 0) (mCall u_least_period [] (maCons (mFld "Moments" "own_firsts" (mVar 0)) (maCons (mVar 2) maNil)))) b_Moments_init_1) := Classical.choose_spec x_b_Moments_init_2
theorem x_b_Moments_init_3 : ∃ m : MS, m = (mSeq (mSetF "Moments" "own_period" (mVar 0) (mIf (mtB (mOp mEq (mFn fLen (maCons (mVar 1) maNil)) (mC (.int (0))))) (mC (.int (0))) (mVar 2))) (mIfS (mtB (mOp mGt (mFld "Moments" "own_period" (mVar 0)) (mC (.int (0))))) b_Moments_init_2 mNext)) := ⟨_, rfl⟩
noncomputable def b_Moments_init_3 : MS := Classical.choose x_b_Moments_init_3
theorem e_b_Moments_init_3 : b_Moments_init_3 = (mSeq (mSetF "Moments" "own_period" (mVar 0) (mIf (mtB (mOp mEq (mFn fLen (maCons (mVar 1) maNil)) (mC (.int (0))))) (mC (.int (0))) (mVar 2))) (mIfS (mtB (mOp mGt (mFld "Moments" "own_period" (mVar 0)) (mC (.int (0))))) b_Moments_init_2 mNext)) := Classical.choose_spec x_b_Moments_init_3
theorem x_b_Moments_init_4 : ∃ m : MS, m = (mSeq (mSetF "Moments" "own_firsts" (mVar 0) (mFn fTuple (maCons (mVar 1) maNil))) b_Moments_init_3) := ⟨_, rfl⟩
noncomputable def b_Moments_init_4 : MS := Classical.choose x_b_Moments_init_4
theorem e_b_Moments_init_4 : b_Moments_init_4 = (mSeq (mSetF "Moments" "own_firsts" (mVar 0) (mFn fTuple (maCons (mVar 1) maNil))) b_Moments_init_3) := Classical.choose_spec x_b_Moments_init_4
theorem x_b_Moments_init_5 : ∃ m : MS, m = (mSeq (mIfS (mtAnd (mtB (mOp mGt (mVar 2) (mC (.int (0))))) (mtNot (mtB (mFn fAll (maCons (mComp (miAny (mVar 1)) [3] (gmName 3) mtYes (mOp mLt (mVar 3) (mVar 2))) maNil))))) (mRaise "InvalidMoments" ["given"] (maCons (mVar 1) maNil)) mNext) b_Moments_init_4) := ⟨_, rfl⟩
noncomputable def b_Moments_init_5 : MS := Classical.choose x_b_Moments_init_5
theorem e_b_Moments_init_5 : b_Moments_init_5 = (mSeq (mIfS (mtAnd (mtB (mOp mGt (mVar 2) (mC (.int (0))))) (mtNot (mtB (mFn fAll (maCons (mComp (miAny (mVar 1)) [3] (gmName 3) mtYes (mOp mLt (mVar 3) (mVar 2))) maNil))))) (mRaise "InvalidMoments" ["given"] (maCons (mVar 1) maNil)) mNext) b_Moments_init_4) := Classical.choose_spec x_b_Moments_init_5
theorem x_b_Moments_init_6 : ∃ m : MS, m = (mSeq (mExpr (mCall u_check_least [] (maCons (mVar 2) (maCons (mC (.int (0))) maNil)))) b_Moments_init_5) := ⟨_, rfl⟩
noncomputable def b_Moments_init_6 : MS := Classical.choose x_b_Moments_init_6
theorem e_b_Moments_init_6 : b_Moments_init_6 = (mSeq (mExpr (mCall u_check_least [] (maCons (mVar 2) (maCons (mC (.int (0))) maNil)))) b_Moments_init_5) := Classical.choose_spec x_b_Moments_init_6
theorem x_b_Moments_init : ∃ m : MS, m = (mSeq (mIfS (mtNot (mtB (mCall u_are_firsts [] (maCons (mVar 1) maNil)))) (mRaise "InvalidMoments" ["given"] (maCons (mVar 1) maNil)) mNext) b_Moments_init_6) := ⟨_, rfl⟩
noncomputable def b_Moments_init : MS := Classical.choose x_b_Moments_init
theorem e_b_Moments_init : b_Moments_init = (mSeq (mIfS (mtNot (mtB (mCall u_are_firsts [] (maCons (mVar 1) maNil)))) (mRaise "InvalidMoments" ["given"] (maCons (mVar 1) maNil)) mNext) b_Moments_init_6) := Classical.choose_spec x_b_Moments_init
theorem x_u_Moments_init : ∃ m : Spec, m = body 3 4 b_Moments_init := ⟨_, rfl⟩
noncomputable def u_Moments_init : Spec := Classical.choose x_u_Moments_init
theorem e_u_Moments_init : u_Moments_init = body 3 4 b_Moments_init := Classical.choose_spec x_u_Moments_init
theorem x_b__law_least_1 : ∃ m : MS, m = (mIfS (mtB (mOp mEq (mSortedSet (mComp (miLst (mVar 0)) [3] (gmName 3) mtYes (mOp mMod (mOp mAdd (mVar 3) (mVar 2)) (mVar 1)))) (mVar 0))) (mRet (mVar 2)) mNext) := ⟨_, rfl⟩
noncomputable def b__law_least_1 : MS := Classical.choose x_b__law_least_1
theorem e_b__law_least_1 : b__law_least_1 = (mIfS (mtB (mOp mEq (mSortedSet (mComp (miLst (mVar 0)) [3] (gmName 3) mtYes (mOp mMod (mOp mAdd (mVar 3) (mVar 2)) (mVar 1)))) (mVar 0))) (mRet (mVar 2)) mNext) := Classical.choose_spec x_b__law_least_1
theorem x_b__law_least_2 : ∃ m : MS, m = (mIfS (mtB (mOp mEq (mOp mMod (mVar 1) (mVar 2)) (mC (.int (0))))) b__law_least_1 mNext) := ⟨_, rfl⟩
noncomputable def b__law_least_2 : MS := Classical.choose x_b__law_least_2
theorem e_b__law_least_2 : b__law_least_2 = (mIfS (mtB (mOp mEq (mOp mMod (mVar 1) (mVar 2)) (mC (.int (0))))) b__law_least_1 mNext) := Classical.choose_spec x_b__law_least_2
theorem x_b__law_least : ∃ m : MS, m = (mSeq (mFor (miRange2 (maCons (mC (.int (1))) (maCons (mOp mAdd (mVar 1) (mC (.int (1)))) maNil))) (gmName 2) b__law_least_2) (mRet (mC (.int (0))))) := ⟨_, rfl⟩
noncomputable def b__law_least : MS := Classical.choose x_b__law_least
theorem e_b__law_least : b__law_least = (mSeq (mFor (miRange2 (maCons (mC (.int (1))) (maCons (mOp mAdd (mVar 1) (mC (.int (1)))) maNil))) (gmName 2) b__law_least_2) (mRet (mC (.int (0))))) := Classical.choose_spec x_b__law_least
theorem x_u__law_least : ∃ m : Spec, m = body 2 4 b__law_least := ⟨_, rfl⟩
noncomputable def u__law_least : Spec := Classical.choose x_u__law_least
theorem e_u__law_least : u__law_least = body 2 4 b__law_least := Classical.choose_spec x_u__law_least
theorem x_b_Moments_period : ∃ m : MS, m = (mRet (mFld "Moments" "own_period" (mVar 0))) := ⟨_, rfl⟩
noncomputable def b_Moments_period : MS := Classical.choose x_b_Moments_period
theorem e_b_Moments_period : b_Moments_period = (mRet (mFld "Moments" "own_period" (mVar 0))) := Classical.choose_spec x_b_Moments_period
theorem x_u_Moments_period : ∃ m : Spec, m = body 1 1 b_Moments_period := ⟨_, rfl⟩
noncomputable def u_Moments_period : Spec := Classical.choose x_u_Moments_period
theorem e_u_Moments_period : u_Moments_period = body 1 1 b_Moments_period := Classical.choose_spec x_u_Moments_period
theorem x_b_Moments_firsts : ∃ m : MS, m = (mRet (mFld "Moments" "own_firsts" (mVar 0))) := ⟨_, rfl⟩
noncomputable def b_Moments_firsts : MS := Classical.choose x_b_Moments_firsts
theorem e_b_Moments_firsts : b_Moments_firsts = (mRet (mFld "Moments" "own_firsts" (mVar 0))) := Classical.choose_spec x_b_Moments_firsts
theorem x_u_Moments_firsts : ∃ m : Spec, m = body 1 1 b_Moments_firsts := ⟨_, rfl⟩
noncomputable def u_Moments_firsts : Spec := Classical.choose x_u_Moments_firsts
theorem e_u_Moments_firsts : u_Moments_firsts = body 1 1 b_Moments_firsts := Classical.choose_spec x_u_Moments_firsts
theorem x_b_Moments_contains : ∃ m : MS, m = (mSeq (mIfS (mtOr (mtNot (mtB (mCall u_is_integer [] (maCons (mVar 1) maNil)))) (mtB (mOp mLt (mVar 1) (mC (.int (0)))))) (mRet (mC (.bl false))) mNext) (mRet (mOp mIn (mIf (mtB (mOp mEq (mFld "Moments" "own_period" (mVar 0)) (mC (.int (0))))) (mVar 1) (mOp mMod (mVar 1) (mFld "Moments" "own_period" (mVar 0)))) (mFld "Moments" "own_firsts" (mVar 0))))) := ⟨_, rfl⟩
noncomputable def b_Moments_contains : MS := Classical.choose x_b_Moments_contains
theorem e_b_Moments_contains : b_Moments_contains = (mSeq (mIfS (mtOr (mtNot (mtB (mCall u_is_integer [] (maCons (mVar 1) maNil)))) (mtB (mOp mLt (mVar 1) (mC (.int (0)))))) (mRet (mC (.bl false))) mNext) (mRet (mOp mIn (mIf (mtB (mOp mEq (mFld "Moments" "own_period" (mVar 0)) (mC (.int (0))))) (mVar 1) (mOp mMod (mVar 1) (mFld "Moments" "own_period" (mVar 0)))) (mFld "Moments" "own_firsts" (mVar 0))))) := Classical.choose_spec x_b_Moments_contains
theorem x_u_Moments_contains : ∃ m : Spec, m = body 2 2 b_Moments_contains := ⟨_, rfl⟩
noncomputable def u_Moments_contains : Spec := Classical.choose x_u_Moments_contains
theorem e_u_Moments_contains : u_Moments_contains = body 2 2 b_Moments_contains := Classical.choose_spec x_u_Moments_contains
theorem x_b__law_periodic_right_2 : ∃ m : MS, m = (mIfS (mtB (mOp mNe (mOp (mInO "Moments" u_Moments_contains) (mVar 9) (mVar 7)) (mOp mIn (mOp mMod (mVar 9) (mOp mMul (mVar 1) (mVar 2))) (mVar 6)))) (mRet (mC (.bl false))) mNext) := ⟨_, rfl⟩
noncomputable def b__law_periodic_right_2 : MS := Classical.choose x_b__law_periodic_right_2
theorem e_b__law_periodic_right_2 : b__law_periodic_right_2 = (mIfS (mtB (mOp mNe (mOp (mInO "Moments" u_Moments_contains) (mVar 9) (mVar 7)) (mOp mIn (mOp mMod (mVar 9) (mOp mMul (mVar 1) (mVar 2))) (mVar 6)))) (mRet (mC (.bl false))) mNext) := Classical.choose_spec x_b__law_periodic_right_2
theorem x_b__law_big_1 : ∃ m : MS, m = (mAsg (mOp mAdd (mOp mMul (mC (.int (10))) (mVar 2)) (mCall u__law_draw [] (maCons (mVar 0) (maCons (mC (.int (10))) maNil)))) (gmName 2)) := ⟨_, rfl⟩
noncomputable def b__law_big_1 : MS := Classical.choose x_b__law_big_1
theorem e_b__law_big_1 : b__law_big_1 = (mAsg (mOp mAdd (mOp mMul (mC (.int (10))) (mVar 2)) (mCall u__law_draw [] (maCons (mVar 0) (maCons (mC (.int (10))) maNil)))) (gmName 2)) := Classical.choose_spec x_b__law_big_1
theorem x_b__law_big_2 : ∃ m : MS, m = (mSeq (mFor (miRange1 (maCons (mOp mSub (mVar 1) (mC (.int (1)))) maNil)) (gmName 3) b__law_big_1) (mRet (mVar 2))) := ⟨_, rfl⟩
noncomputable def b__law_big_2 : MS := Classical.choose x_b__law_big_2
theorem e_b__law_big_2 : b__law_big_2 = (mSeq (mFor (miRange1 (maCons (mOp mSub (mVar 1) (mC (.int (1)))) maNil)) (gmName 3) b__law_big_1) (mRet (mVar 2))) := Classical.choose_spec x_b__law_big_2
theorem x_b__law_big_3 : ∃ m : MS, m = (mSeq (mAsg (mOp mAdd (mCall u__law_draw [] (maCons (mVar 0) (maCons (mC (.int (10))) maNil))) (mC (.int (1)))) (gmName 2)) b__law_big_2) := ⟨_, rfl⟩
noncomputable def b__law_big_3 : MS := Classical.choose x_b__law_big_3
theorem e_b__law_big_3 : b__law_big_3 = (mSeq (mAsg (mOp mAdd (mCall u__law_draw [] (maCons (mVar 0) (maCons (mC (.int (10))) maNil))) (mC (.int (1)))) (gmName 2)) b__law_big_2) := Classical.choose_spec x_b__law_big_3
theorem x_b__law_big : ∃ m : MS, m = (mSeq (mAsg (mOp mIx (mLst (maCons (mC (.int (1))) (maCons (mC (.int (2))) (maCons (mC (.int (9))) (maCons (mC (.int (30))) maNil))))) (mCall u__law_draw [] (maCons (mVar 0) (maCons (mC (.int (4))) maNil)))) (gmName 1)) b__law_big_3) := ⟨_, rfl⟩
noncomputable def b__law_big : MS := Classical.choose x_b__law_big
theorem e_b__law_big : b__law_big = (mSeq (mAsg (mOp mIx (mLst (maCons (mC (.int (1))) (maCons (mC (.int (2))) (maCons (mC (.int (9))) (maCons (mC (.int (30))) maNil))))) (mCall u__law_draw [] (maCons (mVar 0) (maCons (mC (.int (4))) maNil)))) (gmName 1)) b__law_big_3) := Classical.choose_spec x_b__law_big
theorem x_u__law_big : ∃ m : Spec, m = body 1 4 b__law_big := ⟨_, rfl⟩
noncomputable def u__law_big : Spec := Classical.choose x_u__law_big
theorem e_u__law_big : u__law_big = body 1 4 b__law_big := Classical.choose_spec x_u__law_big
theorem x_b_Moments_eq : ∃ m : MS, m = (mSeq (mIfS (mtNot (mtB (mIsiO "Moments" CLS (mVar 1)))) (mRet (mC (.bl false))) mNext) (mRet (mAnd (mOp mEq (mFld "Moments" "own_firsts" (mVar 0)) (mFld "Moments" "own_firsts" (mVar 1))) (mOp mEq (mFld "Moments" "own_period" (mVar 0)) (mFld "Moments" "own_period" (mVar 1)))))) := ⟨_, rfl⟩
noncomputable def b_Moments_eq : MS := Classical.choose x_b_Moments_eq
theorem e_b_Moments_eq : b_Moments_eq = (mSeq (mIfS (mtNot (mtB (mIsiO "Moments" CLS (mVar 1)))) (mRet (mC (.bl false))) mNext) (mRet (mAnd (mOp mEq (mFld "Moments" "own_firsts" (mVar 0)) (mFld "Moments" "own_firsts" (mVar 1))) (mOp mEq (mFld "Moments" "own_period" (mVar 0)) (mFld "Moments" "own_period" (mVar 1)))))) := Classical.choose_spec x_b_Moments_eq
theorem x_u_Moments_eq : ∃ m : Spec, m = body 2 2 b_Moments_eq := ⟨_, rfl⟩
noncomputable def u_Moments_eq : Spec := Classical.choose x_u_Moments_eq
theorem e_u_Moments_eq : u_Moments_eq = body 2 2 b_Moments_eq := Classical.choose_spec x_u_Moments_eq
theorem x_b_Moments_bool : ∃ m : MS, m = (mRet (mFn fBool (maCons (mFn fLen (maCons (mFld "Moments" "own_firsts" (mVar 0)) maNil)) maNil))) := ⟨_, rfl⟩
noncomputable def b_Moments_bool : MS := Classical.choose x_b_Moments_bool
theorem e_b_Moments_bool : b_Moments_bool = (mRet (mFn fBool (maCons (mFn fLen (maCons (mFld "Moments" "own_firsts" (mVar 0)) maNil)) maNil))) := Classical.choose_spec x_b_Moments_bool
theorem x_u_Moments_bool : ∃ m : Spec, m = body 1 1 b_Moments_bool := ⟨_, rfl⟩
noncomputable def u_Moments_bool : Spec := Classical.choose x_u_Moments_bool
theorem e_u_Moments_bool : u_Moments_bool = body 1 1 b_Moments_bool := Classical.choose_spec x_u_Moments_bool
theorem x_b__law_periodic_right_3 : ∃ m : MS, m = (mSeq (mIfS (mtOr (mtB (mNeO "Moments" CLS u_Moments_eq (mVar 7) (mMake "Moments" u_Moments_init [] (maCons (mFn fTuple (maCons (mVar 6) maNil)) (maCons (mOp mMul (mVar 1) (mVar 2)) maNil))))) (mtB (mOp mNe (mFn (fBoolO "Moments" u_Moments_bool) (maCons (mVar 7) maNil)) (mOp mNe (mVar 6) (mLst maNil))))) (mRet (mC (.bl false))) mNext) (mRet (mOr (mOp mEq (mVar 6) (mLst maNil)) (mNeO "Moments" CLS u_Moments_eq (mVar 7) (mMake "Moments" u_Moments_init [.int (0)] (maCons (mVar 6) maNil)))))) := ⟨_, rfl⟩
noncomputable def b__law_periodic_right_3 : MS := Classical.choose x_b__law_periodic_right_3
theorem e_b__law_periodic_right_3 : b__law_periodic_right_3 = (mSeq (mIfS (mtOr (mtB (mNeO "Moments" CLS u_Moments_eq (mVar 7) (mMake "Moments" u_Moments_init [] (maCons (mFn fTuple (maCons (mVar 6) maNil)) (maCons (mOp mMul (mVar 1) (mVar 2)) maNil))))) (mtB (mOp mNe (mFn (fBoolO "Moments" u_Moments_bool) (maCons (mVar 7) maNil)) (mOp mNe (mVar 6) (mLst maNil))))) (mRet (mC (.bl false))) mNext) (mRet (mOr (mOp mEq (mVar 6) (mLst maNil)) (mNeO "Moments" CLS u_Moments_eq (mVar 7) (mMake "Moments" u_Moments_init [.int (0)] (maCons (mVar 6) maNil)))))) := Classical.choose_spec x_b__law_periodic_right_3
theorem x_b__law_periodic_right_4 : ∃ m : MS, m = (mSeq (mIfS (mtB (mOp mNe (mComp (miRange1 (maCons (mVar 1) maNil)) [9] (gmName 9) mtYes (mOp (mInO "Moments" u_Moments_contains) (mOp mAdd (mVar 10) (mVar 9)) (mVar 7))) (mComp (miRange1 (maCons (mVar 1) maNil)) [9] (gmName 9) mtYes (mOp mIn (mVar 9) (mVar 6))))) (mRet (mC (.bl false))) mNext) b__law_periodic_right_3) := ⟨_, rfl⟩
noncomputable def b__law_periodic_right_4 : MS := Classical.choose x_b__law_periodic_right_4
theorem e_b__law_periodic_right_4 : b__law_periodic_right_4 = (mSeq (mIfS (mtB (mOp mNe (mComp (miRange1 (maCons (mVar 1) maNil)) [9] (gmName 9) mtYes (mOp (mInO "Moments" u_Moments_contains) (mOp mAdd (mVar 10) (mVar 9)) (mVar 7))) (mComp (miRange1 (maCons (mVar 1) maNil)) [9] (gmName 9) mtYes (mOp mIn (mVar 9) (mVar 6))))) (mRet (mC (.bl false))) mNext) b__law_periodic_right_3) := Classical.choose_spec x_b__law_periodic_right_4
theorem x_b__law_periodic_right_5 : ∃ m : MS, m = (mSeq (mAsg (mOp mMul (mOp mMul (mVar 1) (mVar 2)) (mCall u__law_big [] (maCons (mVar 0) maNil))) (gmName 10)) b__law_periodic_right_4) := ⟨_, rfl⟩
noncomputable def b__law_periodic_right_5 : MS := Classical.choose x_b__law_periodic_right_5
theorem e_b__law_periodic_right_5 : b__law_periodic_right_5 = (mSeq (mAsg (mOp mMul (mOp mMul (mVar 1) (mVar 2)) (mCall u__law_big [] (maCons (mVar 0) maNil))) (gmName 10)) b__law_periodic_right_4) := Classical.choose_spec x_b__law_periodic_right_5
theorem x_b__law_periodic_right_6 : ∃ m : MS, m = (mSeq (mFor (miRange1 (maCons (mOp mMul (mOp mMul (mC (.int (4))) (mVar 1)) (mVar 2)) maNil)) (gmName 9) b__law_periodic_right_2) b__law_periodic_right_5) := ⟨_, rfl⟩
noncomputable def b__law_periodic_right_6 : MS := Classical.choose x_b__law_periodic_right_6
theorem e_b__law_periodic_right_6 : b__law_periodic_right_6 = (mSeq (mFor (miRange1 (maCons (mOp mMul (mOp mMul (mC (.int (4))) (mVar 1)) (mVar 2)) maNil)) (gmName 9) b__law_periodic_right_2) b__law_periodic_right_5) := Classical.choose_spec x_b__law_periodic_right_6
theorem x_b__law_periodic_right_7 : ∃ m : MS, m = (mSeq (mIfS (mtB (mOp mNe (mLst (maCons (mProp "Moments" u_Moments_period (mVar 7)) (maCons (mProp "Moments" u_Moments_firsts (mVar 7)) maNil))) (mLst (maCons (mVar 8) (maCons (mFn fTuple (maCons (mComp (miLst (mVar 6)) [9] (gmName 9) (mtOr (mtB (mOp mEq (mVar 8) (mC (.int (0))))) (mtB (mOp mLt (mVar 9) (mVar 8)))) (mVar 9)) maNil)) maNil))))) (mRet (mC (.bl false))) mNext) b__law_periodic_right_6) := ⟨_, rfl⟩
noncomputable def b__law_periodic_right_7 : MS := Classical.choose x_b__law_periodic_right_7
theorem e_b__law_periodic_right_7 : b__law_periodic_right_7 = (mSeq (mIfS (mtB (mOp mNe (mLst (maCons (mProp "Moments" u_Moments_period (mVar 7)) (maCons (mProp "Moments" u_Moments_firsts (mVar 7)) maNil))) (mLst (maCons (mVar 8) (maCons (mFn fTuple (maCons (mComp (miLst (mVar 6)) [9] (gmName 9) (mtOr (mtB (mOp mEq (mVar 8) (mC (.int (0))))) (mtB (mOp mLt (mVar 9) (mVar 8)))) (mVar 9)) maNil)) maNil))))) (mRet (mC (.bl false))) mNext) b__law_periodic_right_6) := Classical.choose_spec x_b__law_periodic_right_7
theorem x_b__law_periodic_right_8 : ∃ m : MS, m = (mSeq (mAsg (mIf (mtB (mOp mNe (mVar 6) (mLst maNil))) (mCall u__law_least [] (maCons (mVar 6) (maCons (mOp mMul (mVar 1) (mVar 2)) maNil))) (mC (.int (0)))) (gmName 8)) b__law_periodic_right_7) := ⟨_, rfl⟩
noncomputable def b__law_periodic_right_8 : MS := Classical.choose x_b__law_periodic_right_8
theorem e_b__law_periodic_right_8 : b__law_periodic_right_8 = (mSeq (mAsg (mIf (mtB (mOp mNe (mVar 6) (mLst maNil))) (mCall u__law_least [] (maCons (mVar 6) (maCons (mOp mMul (mVar 1) (mVar 2)) maNil))) (mC (.int (0)))) (gmName 8)) b__law_periodic_right_7) := Classical.choose_spec x_b__law_periodic_right_8
theorem x_b__law_periodic_right_9 : ∃ m : MS, m = (mSeq (mExpr (mBM "list" gAppend (mVar 4) (maCons (mOp mPow (mC (.int (10))) (mC (.int (6)))) maNil))) b__law_periodic_right_8) := ⟨_, rfl⟩
noncomputable def b__law_periodic_right_9 : MS := Classical.choose x_b__law_periodic_right_9
theorem e_b__law_periodic_right_9 : b__law_periodic_right_9 = (mSeq (mExpr (mBM "list" gAppend (mVar 4) (maCons (mOp mPow (mC (.int (10))) (mC (.int (6)))) maNil))) b__law_periodic_right_8) := Classical.choose_spec x_b__law_periodic_right_9
theorem x_b__law_periodic_right_10 : ∃ m : MS, m = (mSeq (mAsg (mMake "Moments" u_Moments_init [] (maCons (mVar 4) (maCons (mOp mMul (mVar 1) (mVar 2)) maNil))) (gmName 7)) b__law_periodic_right_9) := ⟨_, rfl⟩
noncomputable def b__law_periodic_right_10 : MS := Classical.choose x_b__law_periodic_right_10
theorem e_b__law_periodic_right_10 : b__law_periodic_right_10 = (mSeq (mAsg (mMake "Moments" u_Moments_init [] (maCons (mVar 4) (maCons (mOp mMul (mVar 1) (mVar 2)) maNil))) (gmName 7)) b__law_periodic_right_9) := Classical.choose_spec x_b__law_periodic_right_10
theorem x_b__law_periodic_right_11 : ∃ m : MS, m = (mSeq (mAsg (mFn fList (maCons (mVar 4) maNil)) (gmName 6)) b__law_periodic_right_10) := ⟨_, rfl⟩
noncomputable def b__law_periodic_right_11 : MS := Classical.choose x_b__law_periodic_right_11
theorem e_b__law_periodic_right_11 : b__law_periodic_right_11 = (mSeq (mAsg (mFn fList (maCons (mVar 4) maNil)) (gmName 6)) b__law_periodic_right_10) := Classical.choose_spec x_b__law_periodic_right_11
theorem x_b__law_periodic_right_12 : ∃ m : MS, m = (mSeq (mFor (miRange2 (maCons (mC (.int (1))) (maCons (mVar 2) maNil))) (gmName 5) b__law_periodic_right_1) b__law_periodic_right_11) := ⟨_, rfl⟩
noncomputable def b__law_periodic_right_12 : MS := Classical.choose x_b__law_periodic_right_12
theorem e_b__law_periodic_right_12 : b__law_periodic_right_12 = (mSeq (mFor (miRange2 (maCons (mC (.int (1))) (maCons (mVar 2) maNil))) (gmName 5) b__law_periodic_right_1) b__law_periodic_right_11) := Classical.choose_spec x_b__law_periodic_right_12
theorem x_b__law_periodic_right_13 : ∃ m : MS, m = (mSeq (mAsg (mFn fList (maCons (mVar 3) maNil)) (gmName 4)) b__law_periodic_right_12) := ⟨_, rfl⟩
noncomputable def b__law_periodic_right_13 : MS := Classical.choose x_b__law_periodic_right_13
theorem e_b__law_periodic_right_13 : b__law_periodic_right_13 = (mSeq (mAsg (mFn fList (maCons (mVar 3) maNil)) (gmName 4)) b__law_periodic_right_12) := Classical.choose_spec x_b__law_periodic_right_13
theorem x_b__law_periodic_right_14 : ∃ m : MS, m = (mSeq (mAsg (mCall u__law_some [] (maCons (mVar 0) (maCons (mVar 1) (maCons (mC (.int (6))) maNil)))) (gmName 3)) b__law_periodic_right_13) := ⟨_, rfl⟩
noncomputable def b__law_periodic_right_14 : MS := Classical.choose x_b__law_periodic_right_14
theorem e_b__law_periodic_right_14 : b__law_periodic_right_14 = (mSeq (mAsg (mCall u__law_some [] (maCons (mVar 0) (maCons (mVar 1) (maCons (mC (.int (6))) maNil)))) (gmName 3)) b__law_periodic_right_13) := Classical.choose_spec x_b__law_periodic_right_14
theorem x_b__law_periodic_right : ∃ m : MS, m = (mSeq (mAsg (mTup (maCons (mOp mAdd (mC (.int (1))) (mCall u__law_draw [] (maCons (mVar 0) (maCons (mC (.int (12))) maNil)))) (maCons (mOp mAdd (mC (.int (1))) (mCall u__law_draw [] (maCons (mVar 0) (maCons (mC (.int (4))) maNil)))) maNil))) (gmTup 2 (gmCons (gmName 1) (gmCons (gmName 2) gmNil)))) b__law_periodic_right_14) := ⟨_, rfl⟩
noncomputable def b__law_periodic_right : MS := Classical.choose x_b__law_periodic_right
theorem e_b__law_periodic_right : b__law_periodic_right = (mSeq (mAsg (mTup (maCons (mOp mAdd (mC (.int (1))) (mCall u__law_draw [] (maCons (mVar 0) (maCons (mC (.int (12))) maNil)))) (maCons (mOp mAdd (mC (.int (1))) (mCall u__law_draw [] (maCons (mVar 0) (maCons (mC (.int (4))) maNil)))) maNil))) (gmTup 2 (gmCons (gmName 1) (gmCons (gmName 2) gmNil)))) b__law_periodic_right_14) := Classical.choose_spec x_b__law_periodic_right
theorem x_u__law_periodic_right : ∃ m : Spec, m = body 1 11 b__law_periodic_right := ⟨_, rfl⟩
noncomputable def u__law_periodic_right : Spec := Classical.choose x_u__law_periodic_right
theorem e_u__law_periodic_right : u__law_periodic_right = body 1 11 b__law_periodic_right := Classical.choose_spec x_u__law_periodic_right
theorem x_b__law_finite_right_1 : ∃ m : MS, m = (mSeq (mIfS (mtOr (mtB (mEqO "Moments" CLS u_Moments_eq (mVar 2) (mFn fTuple (maCons (mVar 1) maNil)))) (mtOr (mtB (mNeO "Moments" CLS u_Moments_eq (mVar 2) (mMake "Moments" u_Moments_init [] (maCons (mVar 1) (maCons (mC (.int (0))) maNil))))) (mtB (mEqO "Moments" CLS u_Moments_eq (mVar 2) (mMake "Moments" u_Moments_init [.int (0)] (maCons (mOp mAdd (mVar 1) (mLst (maCons (mOp mPow (mC (.int (10))) (mC (.int (40)))) maNil))) maNil)))))) (mRet (mC (.bl false))) mNext) (mRet (mOp mEq (mComp (miLst (mLst (maCons (mC .non) (maCons (mC (.str "1")) (maCons (mNeg (mC (.int (1)))) (maCons (mC (.bl true)) (maCons (mTup (maCons (mC (.int (1))) maNil)) (maCons (mLst (maCons (mC (.int (1))) maNil)) maNil)))))))) [4] (gmName 4) (mtB (mOp (mInO "Moments" u_Moments_contains) (mVar 4) (mMake "Moments" u_Moments_init [.int (0)] (maCons (mLst (maCons (mC (.int (0))) (maCons (mC (.int (1))) maNil))) maNil)))) (mVar 4)) (mLst maNil)))) := ⟨_, rfl⟩
noncomputable def b__law_finite_right_1 : MS := Classical.choose x_b__law_finite_right_1
theorem e_b__law_finite_right_1 : b__law_finite_right_1 = (mSeq (mIfS (mtOr (mtB (mEqO "Moments" CLS u_Moments_eq (mVar 2) (mFn fTuple (maCons (mVar 1) maNil)))) (mtOr (mtB (mNeO "Moments" CLS u_Moments_eq (mVar 2) (mMake "Moments" u_Moments_init [] (maCons (mVar 1) (maCons (mC (.int (0))) maNil))))) (mtB (mEqO "Moments" CLS u_Moments_eq (mVar 2) (mMake "Moments" u_Moments_init [.int (0)] (maCons (mOp mAdd (mVar 1) (mLst (maCons (mOp mPow (mC (.int (10))) (mC (.int (40)))) maNil))) maNil)))))) (mRet (mC (.bl false))) mNext) (mRet (mOp mEq (mComp (miLst (mLst (maCons (mC .non) (maCons (mC (.str "1")) (maCons (mNeg (mC (.int (1)))) (maCons (mC (.bl true)) (maCons (mTup (maCons (mC (.int (1))) maNil)) (maCons (mLst (maCons (mC (.int (1))) maNil)) maNil)))))))) [4] (gmName 4) (mtB (mOp (mInO "Moments" u_Moments_contains) (mVar 4) (mMake "Moments" u_Moments_init [.int (0)] (maCons (mLst (maCons (mC (.int (0))) (maCons (mC (.int (1))) maNil))) maNil)))) (mVar 4)) (mLst maNil)))) := Classical.choose_spec x_b__law_finite_right_1
theorem x_b__law_finite_right_2 : ∃ m : MS, m = (mSeq (mIfS (mtB (mOp mNe (mComp (miRange1 (maCons (mC (.int (60))) maNil)) [3] (gmName 3) (mtB (mOp mNe (mOp (mInO "Moments" u_Moments_contains) (mVar 3) (mVar 2)) (mOp mIn (mVar 3) (mVar 1)))) (mVar 3)) (mLst maNil))) (mRet (mC (.bl false))) mNext) b__law_finite_right_1) := ⟨_, rfl⟩
noncomputable def b__law_finite_right_2 : MS := Classical.choose x_b__law_finite_right_2
theorem e_b__law_finite_right_2 : b__law_finite_right_2 = (mSeq (mIfS (mtB (mOp mNe (mComp (miRange1 (maCons (mC (.int (60))) maNil)) [3] (gmName 3) (mtB (mOp mNe (mOp (mInO "Moments" u_Moments_contains) (mVar 3) (mVar 2)) (mOp mIn (mVar 3) (mVar 1)))) (mVar 3)) (mLst maNil))) (mRet (mC (.bl false))) mNext) b__law_finite_right_1) := Classical.choose_spec x_b__law_finite_right_2
theorem x_b__law_finite_right_3 : ∃ m : MS, m = (mSeq (mIfS (mtOr (mtB (mOp mNe (mLst (maCons (mProp "Moments" u_Moments_period (mVar 2)) (maCons (mProp "Moments" u_Moments_firsts (mVar 2)) maNil))) (mLst (maCons (mC (.int (0))) (maCons (mFn fTuple (maCons (mVar 1) maNil)) maNil))))) (mtB (mOp mNe (mFn (fBoolO "Moments" u_Moments_bool) (maCons (mVar 2) maNil)) (mOp mNe (mVar 1) (mLst maNil))))) (mRet (mC (.bl false))) mNext) b__law_finite_right_2) := ⟨_, rfl⟩
noncomputable def b__law_finite_right_3 : MS := Classical.choose x_b__law_finite_right_3
theorem e_b__law_finite_right_3 : b__law_finite_right_3 = (mSeq (mIfS (mtOr (mtB (mOp mNe (mLst (maCons (mProp "Moments" u_Moments_period (mVar 2)) (maCons (mProp "Moments" u_Moments_firsts (mVar 2)) maNil))) (mLst (maCons (mC (.int (0))) (maCons (mFn fTuple (maCons (mVar 1) maNil)) maNil))))) (mtB (mOp mNe (mFn (fBoolO "Moments" u_Moments_bool) (maCons (mVar 2) maNil)) (mOp mNe (mVar 1) (mLst maNil))))) (mRet (mC (.bl false))) mNext) b__law_finite_right_2) := Classical.choose_spec x_b__law_finite_right_3
theorem x_b__law_finite_right_4 : ∃ m : MS, m = (mSeq (mAsg (mMake "Moments" u_Moments_init [.int (0)] (maCons (mVar 1) maNil)) (gmName 2)) b__law_finite_right_3) := ⟨_, rfl⟩
noncomputable def b__law_finite_right_4 : MS := Classical.choose x_b__law_finite_right_4
theorem e_b__law_finite_right_4 : b__law_finite_right_4 = (mSeq (mAsg (mMake "Moments" u_Moments_init [.int (0)] (maCons (mVar 1) maNil)) (gmName 2)) b__law_finite_right_3) := Classical.choose_spec x_b__law_finite_right_4
theorem x_b__law_finite_right : ∃ m : MS, m = (mSeq (mAsg (mSortedSet (mOp mAdd (mCall u__law_some [] (maCons (mVar 0) (maCons (mC (.int (30))) (maCons (mC (.int (7))) maNil)))) (mSl (mLst (maCons (mCall u__law_big [] (maCons (mVar 0) maNil)) maNil)) none (some (mCall u__law_draw [] (maCons (mVar 0) (maCons (mC (.int (2))) maNil))))))) (gmName 1)) b__law_finite_right_4) := ⟨_, rfl⟩
noncomputable def b__law_finite_right : MS := Classical.choose x_b__law_finite_right
theorem e_b__law_finite_right : b__law_finite_right = (mSeq (mAsg (mSortedSet (mOp mAdd (mCall u__law_some [] (maCons (mVar 0) (maCons (mC (.int (30))) (maCons (mC (.int (7))) maNil)))) (mSl (mLst (maCons (mCall u__law_big [] (maCons (mVar 0) maNil)) maNil)) none (some (mCall u__law_draw [] (maCons (mVar 0) (maCons (mC (.int (2))) maNil))))))) (gmName 1)) b__law_finite_right_4) := Classical.choose_spec x_b__law_finite_right
theorem x_u__law_finite_right : ∃ m : Spec, m = body 1 5 b__law_finite_right := ⟨_, rfl⟩
noncomputable def u__law_finite_right : Spec := Classical.choose x_u__law_finite_right
theorem e_u__law_finite_right : u__law_finite_right = body 1 5 b__law_finite_right := Classical.choose_spec x_u__law_finite_right
theorem x_b__law_said_1 : ∃ m : MS, m = (mExpr (mMake "Moments" u_Moments_init [] (maCons (mVar 0) (maCons (mVar 1) maNil)))) := ⟨_, rfl⟩
noncomputable def b__law_said_1 : MS := Classical.choose x_b__law_said_1
theorem e_b__law_said_1 : b__law_said_1 = (mExpr (mMake "Moments" u_Moments_init [] (maCons (mVar 0) (maCons (mVar 1) maNil)))) := Classical.choose_spec x_b__law_said_1
theorem x_b__law_said : ∃ m : MS, m = (mSeq (mTry b__law_said_1 [⟨[("InvalidMoments", true), ("InvalidNumber", false)], some 2, fun x a => (if x.c = "InvalidMoments" then (mRet (mLst (maCons (mC (.str "some")) (maCons (mFn fRepr (maCons (mExcF x a 2 "given") maNil)) maNil)))) else mNever)⟩, ⟨[("InvalidMoments", false), ("InvalidNumber", true)], some 2, fun x a => (if x.c = "InvalidNumber" then (mRet (mLst (maCons (mC (.str "number")) (maCons (mFn fRepr (maCons (mExcF x a 2 "given") maNil)) maNil)))) else mNever)⟩]) (mRet (mC .non))) := ⟨_, rfl⟩
noncomputable def b__law_said : MS := Classical.choose x_b__law_said
theorem e_b__law_said : b__law_said = (mSeq (mTry b__law_said_1 [⟨[("InvalidMoments", true), ("InvalidNumber", false)], some 2, fun x a => (if x.c = "InvalidMoments" then (mRet (mLst (maCons (mC (.str "some")) (maCons (mFn fRepr (maCons (mExcF x a 2 "given") maNil)) maNil)))) else mNever)⟩, ⟨[("InvalidMoments", false), ("InvalidNumber", true)], some 2, fun x a => (if x.c = "InvalidNumber" then (mRet (mLst (maCons (mC (.str "number")) (maCons (mFn fRepr (maCons (mExcF x a 2 "given") maNil)) maNil)))) else mNever)⟩]) (mRet (mC .non))) := Classical.choose_spec x_b__law_said
theorem x_u__law_said : ∃ m : Spec, m = body 2 3 b__law_said := ⟨_, rfl⟩
noncomputable def u__law_said : Spec := Classical.choose x_u__law_said
theorem e_u__law_said : u__law_said = body 2 3 b__law_said := Classical.choose_spec x_u__law_said
theorem x_b_law_1 : ∃ m : MS, m = (mIfS (mtOr (mtB (mOp mNe (mCall u__law_said [] (maCons (mLst (maCons (mC (.int (1))) (maCons (mC (.int (9))) maNil))) (maCons (mC (.int (9))) maNil))) (mLst (maCons (mC (.str "some")) (maCons (mC (.str "[1, 9]")) maNil))))) (mtB (mOp mIsNot (mCall u__law_said [] (maCons (mLst (maCons (mC (.int (1))) (maCons (mC (.int (9))) maNil))) (maCons (mC (.int (10))) maNil))) (mC .non)))) (mRet (mC (.bl false))) mNext) := ⟨_, rfl⟩
noncomputable def b_law_1 : MS := Classical.choose x_b_law_1
theorem e_b_law_1 : b_law_1 = (mIfS (mtOr (mtB (mOp mNe (mCall u__law_said [] (maCons (mLst (maCons (mC (.int (1))) (maCons (mC (.int (9))) maNil))) (maCons (mC (.int (9))) maNil))) (mLst (maCons (mC (.str "some")) (maCons (mC (.str "[1, 9]")) maNil))))) (mtB (mOp mIsNot (mCall u__law_said [] (maCons (mLst (maCons (mC (.int (1))) (maCons (mC (.int (9))) maNil))) (maCons (mC (.int (10))) maNil))) (mC .non)))) (mRet (mC (.bl false))) mNext) := Classical.choose_spec x_b_law_1
theorem x_b_law_2 : ∃ m : MS, m = (mSeq (mIfS (mtOr (mtB (mOp mNe (mCall u__law_said [] (maCons (mVar 3) (maCons (mVar 4) maNil))) (mLst (maCons (mC (.str "some")) (maCons (mFn fRepr (maCons (mVar 3) maNil)) maNil))))) (mtB (mOp mNe (mCall u__law_said [] (maCons (mLst (maCons (mC (.int (1))) (maCons (mC (.int (9))) maNil))) (maCons (mVar 4) maNil))) (mLst (maCons (mC (.str "number")) (maCons (mFn fRepr (maCons (mVar 4) maNil)) maNil)))))) (mRet (mC (.bl false))) mNext) b_law_1) := ⟨_, rfl⟩
noncomputable def b_law_2 : MS := Classical.choose x_b_law_2
theorem e_b_law_2 : b_law_2 = (mSeq (mIfS (mtOr (mtB (mOp mNe (mCall u__law_said [] (maCons (mVar 3) (maCons (mVar 4) maNil))) (mLst (maCons (mC (.str "some")) (maCons (mFn fRepr (maCons (mVar 3) maNil)) maNil))))) (mtB (mOp mNe (mCall u__law_said [] (maCons (mLst (maCons (mC (.int (1))) (maCons (mC (.int (9))) maNil))) (maCons (mVar 4) maNil))) (mLst (maCons (mC (.str "number")) (maCons (mFn fRepr (maCons (mVar 4) maNil)) maNil)))))) (mRet (mC (.bl false))) mNext) b_law_1) := Classical.choose_spec x_b_law_2
theorem x_b_law_3 : ∃ m : MS, m = (mSeq (mAsg (mOp mIx (mLst (maCons (mC .non) (maCons (mNeg (mC (.int (1)))) (maCons (mC (.bl true)) (maCons (mC (.str "2")) (maCons (mTup (maCons (mC (.int (1))) maNil)) maNil)))))) (mCall u__law_draw [] (maCons (mVar 2) (maCons (mC (.int (5))) maNil)))) (gmName 4)) b_law_2) := ⟨_, rfl⟩
noncomputable def b_law_3 : MS := Classical.choose x_b_law_3
theorem e_b_law_3 : b_law_3 = (mSeq (mAsg (mOp mIx (mLst (maCons (mC .non) (maCons (mNeg (mC (.int (1)))) (maCons (mC (.bl true)) (maCons (mC (.str "2")) (maCons (mTup (maCons (mC (.int (1))) maNil)) maNil)))))) (mCall u__law_draw [] (maCons (mVar 2) (maCons (mC (.int (5))) maNil)))) (gmName 4)) b_law_2) := Classical.choose_spec x_b_law_3
theorem x_b_law_4 : ∃ m : MS, m = (mSeq (mAsg (mOp mIx (mVar 3) (mCall u__law_draw [] (maCons (mVar 2) (maCons (mC (.int (10))) maNil)))) (gmName 3)) b_law_3) := ⟨_, rfl⟩
noncomputable def b_law_4 : MS := Classical.choose x_b_law_4
theorem e_b_law_4 : b_law_4 = (mSeq (mAsg (mOp mIx (mVar 3) (mCall u__law_draw [] (maCons (mVar 2) (maCons (mC (.int (10))) maNil)))) (gmName 3)) b_law_3) := Classical.choose_spec x_b_law_4
theorem x_b_law_5 : ∃ m : MS, m = (mSeq (mAsg (mLst (maCons (mC .non) (maCons (mC (.int (5))) (maCons (mLst (maCons (mC (.int (1))) (maCons (mC (.int (1))) maNil))) (maCons (mLst (maCons (mC (.int (2))) (maCons (mC (.int (1))) maNil))) (maCons (mLst (maCons (mNeg (mC (.int (1)))) maNil)) (maCons (mLst (maCons (mC (.bl true)) maNil)) (maCons (mLst (maCons (mC (.str "1")) maNil)) (maCons (mDic1 (mC (.int (1))) (mC (.int (2)))) (maCons (mTup (maCons (mC (.int (0))) (maCons (mC .non) maNil))) (maCons (mLstRg1 (mC (.int (2001)))) maNil))))))))))) (gmName 3)) b_law_4) := ⟨_, rfl⟩
noncomputable def b_law_5 : MS := Classical.choose x_b_law_5
theorem e_b_law_5 : b_law_5 = (mSeq (mAsg (mLst (maCons (mC .non) (maCons (mC (.int (5))) (maCons (mLst (maCons (mC (.int (1))) (maCons (mC (.int (1))) maNil))) (maCons (mLst (maCons (mC (.int (2))) (maCons (mC (.int (1))) maNil))) (maCons (mLst (maCons (mNeg (mC (.int (1)))) maNil)) (maCons (mLst (maCons (mC (.bl true)) maNil)) (maCons (mLst (maCons (mC (.str "1")) maNil)) (maCons (mDic1 (mC (.int (1))) (mC (.int (2)))) (maCons (mTup (maCons (mC (.int (0))) (maCons (mC .non) maNil))) (maCons (mLstRg1 (mC (.int (2001)))) maNil))))))))))) (gmName 3)) b_law_4) := Classical.choose_spec x_b_law_5
theorem x_b_law_6 : ∃ m : MS, m = (mSeq (mIfS (mtOr (mtNot (mtB (mCall u__law_periodic_right [] (maCons (mVar 2) maNil)))) (mtNot (mtB (mCall u__law_finite_right [] (maCons (mVar 2) maNil))))) (mRet (mC (.bl false))) mNext) b_law_5) := ⟨_, rfl⟩
noncomputable def b_law_6 : MS := Classical.choose x_b_law_6
theorem e_b_law_6 : b_law_6 = (mSeq (mIfS (mtOr (mtNot (mtB (mCall u__law_periodic_right [] (maCons (mVar 2) maNil)))) (mtNot (mtB (mCall u__law_finite_right [] (maCons (mVar 2) maNil))))) (mRet (mC (.bl false))) mNext) b_law_5) := Classical.choose_spec x_b_law_6
theorem x_b_law_7 : ∃ m : MS, m = (mSeq (mAsg (mCall u__law_source [] (maCons (mVar 0) (maCons (mVar 1) maNil))) (gmName 2)) b_law_6) := ⟨_, rfl⟩
noncomputable def b_law_7 : MS := Classical.choose x_b_law_7
theorem e_b_law_7 : b_law_7 = (mSeq (mAsg (mCall u__law_source [] (maCons (mVar 0) (maCons (mVar 1) maNil))) (gmName 2)) b_law_6) := Classical.choose_spec x_b_law_7
theorem x_b_law : ∃ m : MS, m = (mSeq (mFor (miRange1 (maCons (mFn fMax2 (maCons (mC (.int (1))) (maCons (mFn fMin2 (maCons (mFn fLen (maCons (mVar 0) maNil)) (maCons (mC (.int (15))) maNil))) maNil))) maNil)) (gmName 1) b_law_7) (mRet (mOp mEq (mFn fLen (maCons (mProp "Moments" u_Moments_firsts (mMake "Moments" u_Moments_init [.int (0)] (maCons (mLstRg1 (mC (.int (2000)))) maNil))) maNil)) (mC (.int (2000)))))) := ⟨_, rfl⟩
noncomputable def b_law : MS := Classical.choose x_b_law
theorem e_b_law : b_law = (mSeq (mFor (miRange1 (maCons (mFn fMax2 (maCons (mC (.int (1))) (maCons (mFn fMin2 (maCons (mFn fLen (maCons (mVar 0) maNil)) (maCons (mC (.int (15))) maNil))) maNil))) maNil)) (gmName 1) b_law_7) (mRet (mOp mEq (mFn fLen (maCons (mProp "Moments" u_Moments_firsts (mMake "Moments" u_Moments_init [.int (0)] (maCons (mLstRg1 (mC (.int (2000)))) maNil))) maNil)) (mC (.int (2000)))))) := Classical.choose_spec x_b_law
theorem x_u_law : ∃ m : Spec, m = body 1 5 b_law := ⟨_, rfl⟩
noncomputable def u_law : Spec := Classical.choose x_u_law
theorem e_u_law : u_law = body 1 5 b_law := Classical.choose_spec x_u_law
end Lw
namespace Lw
open PySem PySem.Spec PyProof.Rows L2

/-! ### the plain law: small things -/
theorem sl_pos {n : Nat} (h : n ≤ 1000) : n ≤ sizeLine := by rw [sizeLine_eq]; omega
/-- a value of which isinstance may be asked -/
def Okt (S : Sto) (d : D) : Prop := match tyD S d with
  | some (.b _) => True
  | some (.o k) => k ∈ CLS
  | none => False
def isIntD : D → Bool
  | .int _ => true
  | _ => false
def isStrD : D → Bool
  | .str _ => true
  | _ => false
def isTupD : D → Bool
  | .tup _ => true
  | _ => false
theorem tyD_int {S : Sto} {d : D} : tyD S d = some (.b "int") ↔ isIntD d = true := by
  cases d <;> simp [tyD, isIntD]
  split <;> simp
section
variable {S : Sto} {d : D} {q : QD} {x : QX}
theorem is_integer_ok (o : Okt S d) (h : q (.bl (isIntD d)) S) : u_is_integer [d] S q x := by
  rw [e_u_is_integer, e_b_is_integer]
  simp only [e_mNext, e_mSeq, e_mExpr, e_mRet, e_mRetN, e_mIfS, e_mBreak, e_mCont, e_mAsg, e_mPar, e_gmName, e_gmNil, e_gmCons, e_gmTup, e_gmSub, e_mVar, e_mC, e_mOp, e_mtB, e_mtT, e_mtNot, e_mtAnd, e_mtOr, e_mAnd, e_mOr, e_mAndT, e_mOrT, e_mIf, e_mNotB, e_mChain, e_maNil, e_maCons, e_mTup, e_mLst, e_mCall, e_mFld, e_mProp, e_mMeth, e_mMake, e_mSetF, e_mUnO, e_mBinO, e_mCallO, e_mCMeth, e_mRaise, e_mTry, e_mFn, e_mNeg, e_mIsiB, e_mIsiO, e_mFor, e_miRange1, e_miRange2, e_miRangeW, e_miZip, e_zpT, e_mIsi2, e_miAny, e_seqT, e_powW, e_mAug, e_addI, e_fTupleT, e_mSl00, e_mSl01, e_mSl10, e_mSl11, e_miTup, e_miLst, e_body, e_addII, e_addIB, e_addSS, e_addTT, e_addRR, e_subII, e_mulII, e_fdivII, e_modII, e_powII, e_ltII, e_leII, e_gtII, e_geII, e_is, e_isNot, e_ixT, e_ixR, e_ixS, e_ixD, e_inD, e_isIns, e_fLenS, e_fLenT, e_fLenR, e_fMax2, e_fMin2, e_fAbs, e_fIntI, e_fIntB, e_fBoolI, e_fBoolB, e_mExcF, e_tryNil, e_tryCons, e_mBM, e_append, e_extend, e_gmUnl, e_mEqO, e_mNeO, e_fLenO, e_fBoolO, e_mtTO, e_mInO, e_mNotInO, e_mGetO, e_mComp, e_mComp2, e_mSortedSet, e_mLstRg1, e_mDic1, e_mDic0, e_miRange3, e_mtYes, putD, List.getElem?_cons_zero, List.getElem?_cons_succ, List.set_cons_zero, List.set_cons_succ, List.map_cons, List.map_nil, List.length_cons, List.length_nil, List.cons_append, List.nil_append, List.append_nil, List.replicate, Nat.reduceAdd, Nat.reduceSub, Nat.reduceLeDiff, Nat.zero_add, true_and, and_true, reduceIte, Bool.false_eq_true, Bool.true_eq_false, Bool.not_true, Bool.not_false]
  unfold Okt at o
  cases d with
  | ref n =>
    cases e : tyD S (.ref n) with
    | none => rw [e] at o; exact o.elim
    | some t =>
      rw [e] at o
      have hi : t ≠ .b "int" := fun z => by
        have := tyD_int (S := S) (d := .ref n)
        rw [e, z] at this
        simp [isIntD] at this
      have hb : t ≠ .b "bool" := fun z => by
        rw [z] at e
        unfold tyD at e
        dsimp only at e
        split at e <;> simp at e
      cases t with
      | b s =>
        have : s ≠ "int" := fun z => hi (by rw [z])
        have : s ≠ "bool" := fun z => hb (by rw [z])
        simp [isB, *, isIntD] at h ⊢
        exact h
      | o k => exact ⟨o, h⟩
  | _ => first
    | exact o.elim
    | simpa [tyD, isB, isIntD, truD] using h
end
/-! ### == of small data -/
theorem mEq_of {S : Sto} {d e : D} {q : QD} {a b : PyData} (ha : tree 9 S d = some a) (hb : tree 9 S e = some b) (sa : SeqAt.shaped a = true) (sb : SeqAt.shaped b = true) (h : q (.bl (PyData.eqv a b)) S) : mEq d e S q := by
  unfold mEq
  rw [ha, hb]
  exact ⟨⟨sa, sb⟩, h⟩
theorem mNe_of {S : Sto} {d e : D} {q : QD} {a b : PyData} (ha : tree 9 S d = some a) (hb : tree 9 S e = some b) (sa : SeqAt.shaped a = true) (sb : SeqAt.shaped b = true) (h : q (.bl (!PyData.eqv a b)) S) : mNe d e S q := by
  unfold mNe
  rw [ha, hb]
  exact ⟨⟨sa, sb⟩, h⟩
theorem sh_int (i : Int) : SeqAt.shaped (.int i) = true := by simp [SeqAt.shaped, PyData.canLay0, PyData.depth]
theorem tree_int {S : Sto} (i : Int) : tree 9 S (.int i) = some (.int i) := rfl
theorem mEq_int {S : Sto} {i j : Int} {q : QD} : mEq (.int i) (.int j) S q ↔ q (.bl (i == j)) S := by
  unfold mEq
  simp [tree_int, sh_int, PyData.eqv]
theorem mNe_int {S : Sto} {i j : Int} {q : QD} : mNe (.int i) (.int j) S q ↔ q (.bl (!(i == j))) S := by
  unfold mNe
  simp [tree_int, sh_int, PyData.eqv]
/-! ### places, nets, numbers -/
def placeD : D → Bool
  | .tup [.int _, .int _] => true
  | _ => false
def netD : D → Bool
  | .str z => z == "square" || z == "triangle"
  | _ => false
section
variable {S : Sto} {d : D} {q : QD} {x : QX}
theorem okt_ref {n : Nat} (o : Okt S (.ref n)) : (∃ s, tyD S (.ref n) = some (.b s) ∧ (s = "list" ∨ s = "dict")) ∨ ∃ k, tyD S (.ref n) = some (.o k) ∧ k ∈ CLS := by
  unfold Okt at o
  cases e : tyD S (.ref n) with
  | none => rw [e] at o; exact o.elim
  | some t =>
    rw [e] at o
    cases t with
    | b s =>
      refine .inl ⟨s, rfl, ?_⟩
      unfold tyD at e
      dsimp only at e
      split at e <;> simp at e
      · exact .inl e.symm
      · exact .inl e.symm
      · exact .inr e.symm
    | o k => exact .inr ⟨k, rfl, o⟩
end
end Lw

namespace Lw
open PySem PySem.Spec PyProof.Rows L2

/-- a loop by an invariant: what is said of the items that are left -/
theorem forL_ind {ok : Sto → Prop} {g : MG} {b : MS} {md : MEnds} (Inv : List D → Sg → Sto → Prop) (hn : ∀ sd S, Inv [] sd S → ok S ∧ md.nx sd S)
    (hs : ∀ d ds sd S, Inv (d :: ds) sd S → (∀ sd' S', Inv ds sd' S' → forL ok g b md ds sd' S') → ok S ∧ g d sd S (fun sd1 S1 => b { md with nx := forL ok g b md ds, ct := forL ok g b md ds, bk := md.nx } sd1 S1)) :
    ∀ items sd S, Inv items sd S → forL ok g b md items sd S
  | [], sd, S, h => by unfold forL; exact hn sd S h
  | d :: ds, sd, S, h => by unfold forL; exact hs d ds sd S h fun sd' S' h' => forL_ind Inv hn hs ds sd' S' h'
def Net (z : Str) : Prop := z = "square" ∨ z = "triangle"
def hc (z : Str) : Int := if z = "square" then 4 else 6
theorem hc_pos (z : Str) : 0 < hc z := by unfold hc; split <;> decide
theorem hc_le (z : Str) : hc z ≤ 6 := by unfold hc; split <;> decide
theorem tri_ne : ((("triangle" : Str) = "square") : Prop) = False := by simp; decide
theorem hc_sq : hc "square" = 4 := rfl
theorem hc_tri : hc "triangle" = 6 := by unfold hc; rw [if_neg (by decide)]
def mv (z : Str) (x y t : Int) : O := .ins "Movement" [("own_net", .str z), ("own_place", .tup [.int x, .int y]), ("own_turn", .int t)]
section
variable {S : Sto} {d e : D} {q : QD} {x : QX}
theorem net_true {z : Str} (hz : Net z) : netD (.str z) = true := by
  rcases hz with rfl | rfl <;> simp [netD]
end
/-! ### turning -/
def rot1 (z : Str) (p : Int × Int) : Int × Int := if z = "square" then (-p.2, p.1) else (-p.2, p.1 + p.2)
def rotN (z : Str) : Nat → Int × Int → Int × Int
  | 0, p => p
  | n + 1, p => rotN z n (rot1 z p)
theorem strOk_sq : PyData.strOk "square" = true := by decide +kernel
theorem mEq_net {S : Sto} {z : Str} {q : QD} (hz : Net z) (h : q (.bl (decide (z = "square"))) S) : mEq (.str z) (.str "square") S q := by
  rcases hz with rfl | rfl
  · exact mEq_of (a := .str "square") (b := .str "square") rfl rfl (by decide +kernel) (by decide +kernel) (by simpa [PyData.eqv] using h)
  · refine mEq_of (a := .str "triangle") (b := .str "square") rfl rfl (by decide +kernel) (by decide +kernel) ?_
    have e : (("triangle" : Str) == "square") = false := by decide
    have e2 : decide (("triangle" : Str) = "square") = false := by decide
    simpa [PyData.eqv, e, e2] using h
end Lw

namespace Lw
open PySem PySem.Spec PyProof.Rows L2

/-! ### the law's source of numbers -/
def Src (S : Sto) (n : Nat) : Prop := ∃ a b : Int, S[n]? = some (.lst [.int a, .int b]) ∧ 0 ≤ a ∧ 0 ≤ b ∧ b < 2147483647
/-- all that was there stands, but for the cell n -/
structure Frx (n : Nat) (S S' : Sto) : Prop where
  len : S.length ≤ S'.length
  at_ : ∀ i, i < S.length → i ≠ n → S'[i]? = S[i]?
theorem Frx.refl {n : Nat} {S : Sto} : Frx n S S := ⟨Nat.le_refl _, fun _ _ _ => rfl⟩
theorem Frx.trans {n : Nat} {S S' S'' : Sto} (a : Frx n S S') (b : Frx n S' S'') : Frx n S S'' :=
  ⟨Nat.le_trans a.len b.len, fun i h1 h2 => (b.at_ i (Nat.lt_of_lt_of_le h1 a.len) h2).trans (a.at_ i h1 h2)⟩
theorem Frx.set {n : Nat} {S : Sto} {o : O} : Frx n S (S.set n o) := ⟨by simp, fun i _ h => List.getElem?_set_ne (Ne.symm h)⟩
theorem Frx.app {n : Nat} {S T : Sto} : Frx n S (S ++ T) := ⟨by simp, fun i h _ => List.getElem?_append_left h⟩
theorem Frx.get {n i : Nat} {S S' : Sto} {o : O} (a : Frx n S S') (h : S[i]? = some o) (hi : i ≠ n) : S'[i]? = some o :=
  (a.at_ i (List.getElem?_eq_some_iff.mp h).1 hi).trans h
theorem Src.lt {S : Sto} {n : Nat} (h : Src S n) : n < S.length := let ⟨_, _, h, _⟩ := h; (List.getElem?_eq_some_iff.mp h).1
theorem Src.app {S T : Sto} {n : Nat} (h : Src S n) : Src (S ++ T) n := by
  obtain ⟨a, b, h1, h2⟩ := id h
  exact ⟨a, b, by rw [List.getElem?_append_left h.lt]; exact h1, h2⟩
theorem Src.set {S : Sto} {n : Nat} {a b : Int} (h : n < S.length) (h1 : 0 ≤ a) (h2 : 0 ≤ b) (h3 : b < 2147483647) : Src (S.set n (.lst [.int a, .int b])) n :=
  ⟨a, b, List.getElem?_set_self h, h1, h2, h3⟩
theorem cmul_l {i j : Int} (h1 : -18446744073709551616 < i) (h2 : i < 18446744073709551616) : CMul i j ∨ CMulW i j := .inl (.inl ⟨by simpa using h1, by simpa using h2⟩)
theorem cmul_r {i j : Int} (h1 : -18446744073709551616 < j) (h2 : j < 18446744073709551616) : CMul i j ∨ CMulW i j := .inl (.inr ⟨by simpa using h1, by simpa using h2⟩)
theorem ix0 {a b : D} : L2.atI [a, b] 0 = some a := rfl
theorem ix1 {a b : D} : L2.atI [a, b] 1 = some b := rfl
theorem ixn0 : L2.ixN 2 0 = some 0 := rfl
theorem ixn1 : L2.ixN 2 1 = some 1 := rfl
section
variable {S : Sto} {q : QD} {x : QX} {n : Nat} {k : Int}
theorem draw_ok (h : Src S n) (hk : 0 < k) (hk2 : k.natAbs.log2 < 9000) (hq : ∀ d S', 0 ≤ d → d < k → Frx n S S' → S'.length = S.length → Src S' n → q (.int d) S') : u__law_draw [.ref n, .int k] S q x := by
  obtain ⟨a, b, e, ha, hb, hb2⟩ := id h
  have hl := h.lt
  rw [e_u__law_draw, e_b__law_draw, e_b__law_draw_3, e_b__law_draw_2, e_b__law_draw_1]
  simp only [e_mNext, e_mSeq, e_mExpr, e_mRet, e_mRetN, e_mIfS, e_mBreak, e_mCont, e_mAsg, e_mPar, e_gmName, e_gmNil, e_gmCons, e_gmTup, e_gmSub, e_mVar, e_mC, e_mOp, e_mtB, e_mtT, e_mtNot, e_mtAnd, e_mtOr, e_mAnd, e_mOr, e_mAndT, e_mOrT, e_mIf, e_mNotB, e_mChain, e_maNil, e_maCons, e_mTup, e_mLst, e_mCall, e_mFld, e_mProp, e_mMeth, e_mMake, e_mSetF, e_mUnO, e_mBinO, e_mCallO, e_mCMeth, e_mRaise, e_mTry, e_mFn, e_mNeg, e_mIsiB, e_mIsiO, e_mFor, e_miRange1, e_miRange2, e_miRangeW, e_miZip, e_zpT, e_mIsi2, e_miAny, e_seqT, e_powW, e_mAug, e_addI, e_fTupleT, e_mSl00, e_mSl01, e_mSl10, e_mSl11, e_miTup, e_miLst, e_body, e_addII, e_addIB, e_addSS, e_addTT, e_addRR, e_subII, e_mulII, e_fdivII, e_modII, e_powII, e_ltII, e_leII, e_gtII, e_geII, e_is, e_isNot, e_ixT, e_ixR, e_ixS, e_ixD, e_inD, e_isIns, e_fLenS, e_fLenT, e_fLenR, e_fMax2, e_fMin2, e_fAbs, e_fIntI, e_fIntB, e_fBoolI, e_fBoolB, e_mExcF, e_tryNil, e_tryCons, e_mBM, e_append, e_extend, e_gmUnl, e_mEqO, e_mNeO, e_fLenO, e_fBoolO, e_mtTO, e_mInO, e_mNotInO, e_mGetO, e_mComp, e_mComp2, e_mSortedSet, e_mLstRg1, e_mDic1, e_mDic0, e_miRange3, e_mtYes, putD, List.getElem?_cons_zero, List.getElem?_cons_succ, List.set_cons_zero, List.set_cons_succ, List.map_cons, List.map_nil, List.length_cons, List.length_nil, List.cons_append, List.nil_append, List.append_nil, List.replicate, Nat.reduceAdd, Nat.reduceSub, Nat.reduceLeDiff, Nat.zero_add, true_and, and_true, reduceIte, Bool.false_eq_true, Bool.true_eq_false, Bool.not_true, Bool.not_false, seqO, lstO, e, ix0, ix1, ixn0, ixn1]
  by_cases hp : 0 < a
  · simp only [hp, decide_true, reduceIte]
    refine ⟨hk, ⟨hk, hk2⟩, ?_⟩
    exact hq _ _ (Int.emod_nonneg _ (by omega)) (Int.emod_lt_of_pos _ hk) Frx.set (by simp) (Src.set hl (Int.ediv_nonneg ha (by omega)) hb hb2)
  · simp only [hp, decide_false, Bool.false_eq_true, reduceIte]
    refine ⟨cmul_r (by decide) (by decide), by decide, ?_⟩
    have e2 : (S.set n (O.lst [D.int a, D.int ((b * 48271 + 11) % 2147483647)]))[n]? = some (O.lst [D.int a, D.int ((b * 48271 + 11) % 2147483647)]) := List.getElem?_set_self hl
    simp only [e2, ix1]
    have h0 : 0 ≤ (b * 48271 + 11) % 2147483647 := Int.emod_nonneg _ (by decide)
    have h1 : (b * 48271 + 11) % 2147483647 < 2147483647 := Int.emod_lt_of_pos _ (by decide)
    refine ⟨cmul_r (by omega) (by omega), by decide, ⟨by decide, by decide⟩, hk, ?_⟩
    exact hq _ _ (Int.emod_nonneg _ (by omega)) (Int.emod_lt_of_pos _ hk) Frx.set (by simp) (Src.set hl ha h0 h1)
theorem seqO_app {S : Sto} {ds : List D} : seqO (S ++ [.lst ds]) S.length = some ds := by simp [seqO]
theorem source_ok {s : Nat} {ns : List Int} (hs : S[s]? = some (.frz (ns.map .int))) (h0 : 0 ≤ k) (hq : ∀ o, Src (S ++ [o]) S.length → q (.ref S.length) (S ++ [o])) : u__law_source [.ref s, .int k] S q x := by
  rw [e_u__law_source, e_b__law_source, e_b__law_source_4, e_b__law_source_3, e_b__law_source_2, e_b__law_source_1]
  simp only [e_mNext, e_mSeq, e_mExpr, e_mRet, e_mRetN, e_mIfS, e_mBreak, e_mCont, e_mAsg, e_mPar, e_gmName, e_gmNil, e_gmCons, e_gmTup, e_gmSub, e_mVar, e_mC, e_mOp, e_mtB, e_mtT, e_mtNot, e_mtAnd, e_mtOr, e_mAnd, e_mOr, e_mAndT, e_mOrT, e_mIf, e_mNotB, e_mChain, e_maNil, e_maCons, e_mTup, e_mLst, e_mCall, e_mFld, e_mProp, e_mMeth, e_mMake, e_mSetF, e_mUnO, e_mBinO, e_mCallO, e_mCMeth, e_mRaise, e_mTry, e_mFn, e_mNeg, e_mIsiB, e_mIsiO, e_mFor, e_miRange1, e_miRange2, e_miRangeW, e_miZip, e_zpT, e_mIsi2, e_miAny, e_seqT, e_powW, e_mAug, e_addI, e_fTupleT, e_mSl00, e_mSl01, e_mSl10, e_mSl11, e_miTup, e_miLst, e_body, e_addII, e_addIB, e_addSS, e_addTT, e_addRR, e_subII, e_mulII, e_fdivII, e_modII, e_powII, e_ltII, e_leII, e_gtII, e_geII, e_is, e_isNot, e_ixT, e_ixR, e_ixS, e_ixD, e_inD, e_isIns, e_fLenS, e_fLenT, e_fLenR, e_fMax2, e_fMin2, e_fAbs, e_fIntI, e_fIntB, e_fBoolI, e_fBoolB, e_mExcF, e_tryNil, e_tryCons, e_mBM, e_append, e_extend, e_gmUnl, e_mEqO, e_mNeO, e_fLenO, e_fBoolO, e_mtTO, e_mInO, e_mNotInO, e_mGetO, e_mComp, e_mComp2, e_mSortedSet, e_mLstRg1, e_mDic1, e_mDic0, e_miRange3, e_mtYes, putD, List.getElem?_cons_zero, List.getElem?_cons_succ, List.set_cons_zero, List.set_cons_succ, List.map_cons, List.map_nil, List.length_cons, List.length_nil, List.cons_append, List.nil_append, List.append_nil, List.replicate, Nat.reduceAdd, Nat.reduceSub, Nat.reduceLeDiff, Nat.zero_add, true_and, and_true, reduceIte, Bool.false_eq_true, Bool.true_eq_false, Bool.not_true, Bool.not_false, seqO, hs]
  have tail : ∀ m : Int, 0 ≤ m → ∀ m', (m' = 0 ∨ m' = m) → q (.ref S.length) (S ++ [O.lst [D.int m', D.int ((m % 2147483629 * 16807 + 104729 * k + 11) % 2147483647)]]) := fun m hm m' h => by
    refine hq _ ⟨_, _, by simp; exact ⟨rfl, rfl⟩, ?_, Int.emod_nonneg _ (by decide), Int.emod_lt_of_pos _ (by decide)⟩
    rcases h with rfl | rfl
    · decide
    · exact hm
  have c2 : ∀ m : Int, (CMul (m % 2147483629) 16807 ∨ CMulW (m % 2147483629) 16807) := fun m => cmul_r (by decide) (by decide)
  have c3 : (CMul 104729 k ∨ CMulW 104729 k) := cmul_l (by decide) (by decide)
  have cp : CPow 10 18 := ⟨by decide, by decide, by decide⟩
  have two : (2 : Nat) ≤ sizeLine := sl_pos (by decide)
  have nn : ∀ c : Int, 0 ≤ (if -1 - c > c then -1 - c else c) := fun c => by split <;> omega
  by_cases hl : k < ((ns.map D.int).length : Int)
  · simp only [hl, decide_true, reduceIte]
    have hi : ∃ c, L2.atI (ns.map D.int) k = some (.int c) := by
      have hl' : k.toNat < ns.length := by simp at hl; omega
      refine ⟨ns[k.toNat], ?_⟩
      unfold L2.atI L2.ixN
      simp at hl
      have e1 : (0 ≤ k ∧ k < (ns.length : Int)) := ⟨h0, by omega⟩
      simp [e1, h0, hl']
    obtain ⟨c, ec⟩ := hi
    simp only [ec, e_mNext, e_mSeq, e_mExpr, e_mRet, e_mRetN, e_mIfS, e_mBreak, e_mCont, e_mAsg, e_mPar, e_gmName, e_gmNil, e_gmCons, e_gmTup, e_gmSub, e_mVar, e_mC, e_mOp, e_mtB, e_mtT, e_mtNot, e_mtAnd, e_mtOr, e_mAnd, e_mOr, e_mAndT, e_mOrT, e_mIf, e_mNotB, e_mChain, e_maNil, e_maCons, e_mTup, e_mLst, e_mCall, e_mFld, e_mProp, e_mMeth, e_mMake, e_mSetF, e_mUnO, e_mBinO, e_mCallO, e_mCMeth, e_mRaise, e_mTry, e_mFn, e_mNeg, e_mIsiB, e_mIsiO, e_mFor, e_miRange1, e_miRange2, e_miRangeW, e_miZip, e_zpT, e_mIsi2, e_miAny, e_seqT, e_powW, e_mAug, e_addI, e_fTupleT, e_mSl00, e_mSl01, e_mSl10, e_mSl11, e_miTup, e_miLst, e_body, e_addII, e_addIB, e_addSS, e_addTT, e_addRR, e_subII, e_mulII, e_fdivII, e_modII, e_powII, e_ltII, e_leII, e_gtII, e_geII, e_is, e_isNot, e_ixT, e_ixR, e_ixS, e_ixD, e_inD, e_isIns, e_fLenS, e_fLenT, e_fLenR, e_fMax2, e_fMin2, e_fAbs, e_fIntI, e_fIntB, e_fBoolI, e_fBoolB, e_mExcF, e_tryNil, e_tryCons, e_mBM, e_append, e_extend, e_gmUnl, e_mEqO, e_mNeO, e_fLenO, e_fBoolO, e_mtTO, e_mInO, e_mNotInO, e_mGetO, e_mComp, e_mComp2, e_mSortedSet, e_mLstRg1, e_mDic1, e_mDic0, e_miRange3, e_mtYes, putD, List.getElem?_cons_zero, List.getElem?_cons_succ, List.set_cons_zero, List.set_cons_succ, List.map_cons, List.map_nil, List.length_cons, List.length_nil, List.cons_append, List.nil_append, List.append_nil, List.replicate, Nat.reduceAdd, Nat.reduceSub, Nat.reduceLeDiff, Nat.zero_add, true_and, and_true, reduceIte, Bool.false_eq_true, Bool.true_eq_false, Bool.not_true, Bool.not_false]
    have hn := nn c
    generalize (if -1 - c > c then -1 - c else c) = m at hn ⊢
    refine ⟨by decide, c2 m, c3, by decide, cp, ?_⟩
    by_cases z : m < 10 ^ (18 : Int).toNat
    · simp only [z, decide_true, e_mNext, e_mSeq, e_mExpr, e_mRet, e_mRetN, e_mIfS, e_mBreak, e_mCont, e_mAsg, e_mPar, e_gmName, e_gmNil, e_gmCons, e_gmTup, e_gmSub, e_mVar, e_mC, e_mOp, e_mtB, e_mtT, e_mtNot, e_mtAnd, e_mtOr, e_mAnd, e_mOr, e_mAndT, e_mOrT, e_mIf, e_mNotB, e_mChain, e_maNil, e_maCons, e_mTup, e_mLst, e_mCall, e_mFld, e_mProp, e_mMeth, e_mMake, e_mSetF, e_mUnO, e_mBinO, e_mCallO, e_mCMeth, e_mRaise, e_mTry, e_mFn, e_mNeg, e_mIsiB, e_mIsiO, e_mFor, e_miRange1, e_miRange2, e_miRangeW, e_miZip, e_zpT, e_mIsi2, e_miAny, e_seqT, e_powW, e_mAug, e_addI, e_fTupleT, e_mSl00, e_mSl01, e_mSl10, e_mSl11, e_miTup, e_miLst, e_body, e_addII, e_addIB, e_addSS, e_addTT, e_addRR, e_subII, e_mulII, e_fdivII, e_modII, e_powII, e_ltII, e_leII, e_gtII, e_geII, e_is, e_isNot, e_ixT, e_ixR, e_ixS, e_ixD, e_inD, e_isIns, e_fLenS, e_fLenT, e_fLenR, e_fMax2, e_fMin2, e_fAbs, e_fIntI, e_fIntB, e_fBoolI, e_fBoolB, e_mExcF, e_tryNil, e_tryCons, e_mBM, e_append, e_extend, e_gmUnl, e_mEqO, e_mNeO, e_fLenO, e_fBoolO, e_mtTO, e_mInO, e_mNotInO, e_mGetO, e_mComp, e_mComp2, e_mSortedSet, e_mLstRg1, e_mDic1, e_mDic0, e_miRange3, e_mtYes, putD, List.getElem?_cons_zero, List.getElem?_cons_succ, List.set_cons_zero, List.set_cons_succ, List.map_cons, List.map_nil, List.length_cons, List.length_nil, List.cons_append, List.nil_append, List.append_nil, List.replicate, Nat.reduceAdd, Nat.reduceSub, Nat.reduceLeDiff, Nat.zero_add, true_and, and_true, reduceIte, Bool.false_eq_true, Bool.true_eq_false, Bool.not_true, Bool.not_false]
      exact ⟨two, tail m hn 0 (.inl rfl)⟩
    · simp only [z, decide_false, e_mNext, e_mSeq, e_mExpr, e_mRet, e_mRetN, e_mIfS, e_mBreak, e_mCont, e_mAsg, e_mPar, e_gmName, e_gmNil, e_gmCons, e_gmTup, e_gmSub, e_mVar, e_mC, e_mOp, e_mtB, e_mtT, e_mtNot, e_mtAnd, e_mtOr, e_mAnd, e_mOr, e_mAndT, e_mOrT, e_mIf, e_mNotB, e_mChain, e_maNil, e_maCons, e_mTup, e_mLst, e_mCall, e_mFld, e_mProp, e_mMeth, e_mMake, e_mSetF, e_mUnO, e_mBinO, e_mCallO, e_mCMeth, e_mRaise, e_mTry, e_mFn, e_mNeg, e_mIsiB, e_mIsiO, e_mFor, e_miRange1, e_miRange2, e_miRangeW, e_miZip, e_zpT, e_mIsi2, e_miAny, e_seqT, e_powW, e_mAug, e_addI, e_fTupleT, e_mSl00, e_mSl01, e_mSl10, e_mSl11, e_miTup, e_miLst, e_body, e_addII, e_addIB, e_addSS, e_addTT, e_addRR, e_subII, e_mulII, e_fdivII, e_modII, e_powII, e_ltII, e_leII, e_gtII, e_geII, e_is, e_isNot, e_ixT, e_ixR, e_ixS, e_ixD, e_inD, e_isIns, e_fLenS, e_fLenT, e_fLenR, e_fMax2, e_fMin2, e_fAbs, e_fIntI, e_fIntB, e_fBoolI, e_fBoolB, e_mExcF, e_tryNil, e_tryCons, e_mBM, e_append, e_extend, e_gmUnl, e_mEqO, e_mNeO, e_fLenO, e_fBoolO, e_mtTO, e_mInO, e_mNotInO, e_mGetO, e_mComp, e_mComp2, e_mSortedSet, e_mLstRg1, e_mDic1, e_mDic0, e_miRange3, e_mtYes, putD, List.getElem?_cons_zero, List.getElem?_cons_succ, List.set_cons_zero, List.set_cons_succ, List.map_cons, List.map_nil, List.length_cons, List.length_nil, List.cons_append, List.nil_append, List.append_nil, List.replicate, Nat.reduceAdd, Nat.reduceSub, Nat.reduceLeDiff, Nat.zero_add, true_and, and_true, reduceIte, Bool.false_eq_true, Bool.true_eq_false, Bool.not_true, Bool.not_false]
      exact ⟨two, tail m hn m (.inr rfl)⟩
  · simp only [hl, decide_false, Bool.false_eq_true, reduceIte]
    have hn := nn 0
    generalize (if -1 - 0 > (0 : Int) then -1 - 0 else (0 : Int)) = m at hn ⊢
    refine ⟨by decide, c2 m, c3, by decide, cp, ?_⟩
    by_cases z : m < 10 ^ (18 : Int).toNat
    · simp only [z, decide_true, e_mNext, e_mSeq, e_mExpr, e_mRet, e_mRetN, e_mIfS, e_mBreak, e_mCont, e_mAsg, e_mPar, e_gmName, e_gmNil, e_gmCons, e_gmTup, e_gmSub, e_mVar, e_mC, e_mOp, e_mtB, e_mtT, e_mtNot, e_mtAnd, e_mtOr, e_mAnd, e_mOr, e_mAndT, e_mOrT, e_mIf, e_mNotB, e_mChain, e_maNil, e_maCons, e_mTup, e_mLst, e_mCall, e_mFld, e_mProp, e_mMeth, e_mMake, e_mSetF, e_mUnO, e_mBinO, e_mCallO, e_mCMeth, e_mRaise, e_mTry, e_mFn, e_mNeg, e_mIsiB, e_mIsiO, e_mFor, e_miRange1, e_miRange2, e_miRangeW, e_miZip, e_zpT, e_mIsi2, e_miAny, e_seqT, e_powW, e_mAug, e_addI, e_fTupleT, e_mSl00, e_mSl01, e_mSl10, e_mSl11, e_miTup, e_miLst, e_body, e_addII, e_addIB, e_addSS, e_addTT, e_addRR, e_subII, e_mulII, e_fdivII, e_modII, e_powII, e_ltII, e_leII, e_gtII, e_geII, e_is, e_isNot, e_ixT, e_ixR, e_ixS, e_ixD, e_inD, e_isIns, e_fLenS, e_fLenT, e_fLenR, e_fMax2, e_fMin2, e_fAbs, e_fIntI, e_fIntB, e_fBoolI, e_fBoolB, e_mExcF, e_tryNil, e_tryCons, e_mBM, e_append, e_extend, e_gmUnl, e_mEqO, e_mNeO, e_fLenO, e_fBoolO, e_mtTO, e_mInO, e_mNotInO, e_mGetO, e_mComp, e_mComp2, e_mSortedSet, e_mLstRg1, e_mDic1, e_mDic0, e_miRange3, e_mtYes, putD, List.getElem?_cons_zero, List.getElem?_cons_succ, List.set_cons_zero, List.set_cons_succ, List.map_cons, List.map_nil, List.length_cons, List.length_nil, List.cons_append, List.nil_append, List.append_nil, List.replicate, Nat.reduceAdd, Nat.reduceSub, Nat.reduceLeDiff, Nat.zero_add, true_and, and_true, reduceIte, Bool.false_eq_true, Bool.true_eq_false, Bool.not_true, Bool.not_false]
      exact ⟨two, tail m hn 0 (.inl rfl)⟩
    · simp only [z, decide_false, e_mNext, e_mSeq, e_mExpr, e_mRet, e_mRetN, e_mIfS, e_mBreak, e_mCont, e_mAsg, e_mPar, e_gmName, e_gmNil, e_gmCons, e_gmTup, e_gmSub, e_mVar, e_mC, e_mOp, e_mtB, e_mtT, e_mtNot, e_mtAnd, e_mtOr, e_mAnd, e_mOr, e_mAndT, e_mOrT, e_mIf, e_mNotB, e_mChain, e_maNil, e_maCons, e_mTup, e_mLst, e_mCall, e_mFld, e_mProp, e_mMeth, e_mMake, e_mSetF, e_mUnO, e_mBinO, e_mCallO, e_mCMeth, e_mRaise, e_mTry, e_mFn, e_mNeg, e_mIsiB, e_mIsiO, e_mFor, e_miRange1, e_miRange2, e_miRangeW, e_miZip, e_zpT, e_mIsi2, e_miAny, e_seqT, e_powW, e_mAug, e_addI, e_fTupleT, e_mSl00, e_mSl01, e_mSl10, e_mSl11, e_miTup, e_miLst, e_body, e_addII, e_addIB, e_addSS, e_addTT, e_addRR, e_subII, e_mulII, e_fdivII, e_modII, e_powII, e_ltII, e_leII, e_gtII, e_geII, e_is, e_isNot, e_ixT, e_ixR, e_ixS, e_ixD, e_inD, e_isIns, e_fLenS, e_fLenT, e_fLenR, e_fMax2, e_fMin2, e_fAbs, e_fIntI, e_fIntB, e_fBoolI, e_fBoolB, e_mExcF, e_tryNil, e_tryCons, e_mBM, e_append, e_extend, e_gmUnl, e_mEqO, e_mNeO, e_fLenO, e_fBoolO, e_mtTO, e_mInO, e_mNotInO, e_mGetO, e_mComp, e_mComp2, e_mSortedSet, e_mLstRg1, e_mDic1, e_mDic0, e_miRange3, e_mtYes, putD, List.getElem?_cons_zero, List.getElem?_cons_succ, List.set_cons_zero, List.set_cons_succ, List.map_cons, List.map_nil, List.length_cons, List.length_nil, List.cons_append, List.nil_append, List.append_nil, List.replicate, Nat.reduceAdd, Nat.reduceSub, Nat.reduceLeDiff, Nat.zero_add, true_and, and_true, reduceIte, Bool.false_eq_true, Bool.true_eq_false, Bool.not_true, Bool.not_false]
      exact ⟨two, tail m hn m (.inr rfl)⟩
end
end Lw

namespace Lw
open PySem PySem.Spec PyProof.Rows L2

/-! ### a store that grows -/
structure Ext (S S' : Sto) : Prop where
  len : S.length ≤ S'.length
  at_ : ∀ i, i < S.length → S'[i]? = S[i]?
theorem Ext.refl {S : Sto} : Ext S S := ⟨Nat.le_refl _, fun _ _ => rfl⟩
theorem Ext.trans {S S' S'' : Sto} (a : Ext S S') (b : Ext S' S'') : Ext S S'' := ⟨Nat.le_trans a.len b.len, fun i h => (b.at_ i (Nat.lt_of_lt_of_le h a.len)).trans (a.at_ i h)⟩
theorem Ext.app {S T : Sto} : Ext S (S ++ T) := ⟨by simp, fun i h => List.getElem?_append_left h⟩
theorem Ext.get {i : Nat} {S S' : Sto} {o : O} (a : Ext S S') (h : S[i]? = some o) : S'[i]? = some o := (a.at_ i (List.getElem?_eq_some_iff.mp h).1).trans h
theorem Ext.seq {n : Nat} {S S' : Sto} {ds : List D} (a : Ext S S') (h : seqO S n = some ds) : seqO S' n = some ds := by
  unfold seqO at h ⊢
  split at h
  · rename_i e; cases h; rw [a.get e]
  · rename_i e; cases h; rw [a.get e]
  · cases h
theorem treeL_mono {f g : D → Option PyData} (h : ∀ d p, f d = some p → g d = some p) : ∀ {ds : List D} {ps : List PyData}, treeL f ds = some ps → treeL g ds = some ps
  | [], _, e => e
  | d :: ds, ps, e => by
    unfold treeL at e ⊢
    split at e
    · rename_i a b ea eb
      cases e
      rw [h d a ea, treeL_mono h eb]
    · cases e
theorem Ext.tree {S S' : Sto} (a : Ext S S') : ∀ (k : Nat) (d : D) (p : PyData), tree k S d = some p → tree k S' d = some p
  | 0, d, p, h => by unfold Lw.tree at h; cases h
  | k + 1, d, p, h => by
    unfold Lw.tree at h ⊢
    cases d with
    | tup ds =>
      dsimp only at h ⊢
      cases e : treeL (Lw.tree k S) ds with
      | none => rw [e] at h; cases h
      | some ps => rw [e] at h; rw [treeL_mono (fun d p q => a.tree k d p q) e]; exact h
    | ref n =>
      dsimp only at h ⊢
      cases e : seqO S n with
      | none => rw [e] at h; cases h
      | some ds =>
        rw [e] at h
        rw [a.seq e]
        dsimp only [Option.bind] at h ⊢
        cases e2 : treeL (Lw.tree k S) ds with
        | none => rw [e2] at h; cases h
        | some ps => rw [e2] at h; rw [treeL_mono (fun d p q => a.tree k d p q) e2]; exact h
    | _ => exact h
theorem Ext.tyD {S S' : Sto} (a : Ext S S') {d : D} {t : Kd} (h : tyD S d = some t) : Lw.tyD S' d = some t := by
  cases d with
  | ref n =>
    unfold Lw.tyD at h ⊢
    dsimp only at h ⊢
    split at h
    · rename_i e; rw [a.get e]; exact h
    · rename_i e; rw [a.get e]; exact h
    · rename_i e; rw [a.get e]; exact h
    · rename_i e; rw [a.get e]; exact h
    · cases h
  | _ => exact h
/-! ### drawn movements -/
section
variable {S : Sto} {q : QD} {x : QX} {n : Nat} {k : Int}
theorem log_lt {k : Int} (h : 0 < k) (h2 : k < 1000) : k.natAbs.log2 < 9000 := by
  have : k.natAbs < 2 ^ 10 := by omega
  have h3 := (Nat.log2_lt (by omega)).mpr this
  omega
theorem drw {S : Sto} {q : QD} {x : QX} {n : Nat} {k : Int} (h : Src S n) (hk : 0 < k) (h2 : k < 1000) (hq : ∀ d S', 0 ≤ d → d < k → Frx n S S' → Src S' n → q (.int d) S') : u__law_draw [.ref n, .int k] S q x :=
  draw_ok h hk (log_lt hk h2) fun d S' a b c _ e => hq d S' a b c e
theorem big_ok (h : Src S n) (hq : ∀ v S', 1 ≤ v → Frx n S S' → Src S' n → q (.int v) S') : u__law_big [.ref n] S q x := by
  have hl := h.lt
  rw [e_u__law_big, e_b__law_big, e_b__law_big_3, e_b__law_big_2, e_b__law_big_1]
  simp only [e_mNext, e_mSeq, e_mExpr, e_mRet, e_mRetN, e_mIfS, e_mBreak, e_mCont, e_mAsg, e_mPar, e_gmName, e_gmNil, e_gmCons, e_gmTup, e_gmSub, e_mVar, e_mC, e_mOp, e_mtB, e_mtT, e_mtNot, e_mtAnd, e_mtOr, e_mAnd, e_mOr, e_mAndT, e_mOrT, e_mIf, e_mNotB, e_mChain, e_maNil, e_maCons, e_mTup, e_mLst, e_mCall, e_mFld, e_mProp, e_mMeth, e_mMake, e_mSetF, e_mUnO, e_mBinO, e_mCallO, e_mCMeth, e_mRaise, e_mTry, e_mFn, e_mNeg, e_mIsiB, e_mIsiO, e_mFor, e_miRange1, e_miRange2, e_miRangeW, e_miZip, e_zpT, e_mIsi2, e_miAny, e_seqT, e_powW, e_mAug, e_addI, e_fTupleT, e_mSl00, e_mSl01, e_mSl10, e_mSl11, e_miTup, e_miLst, e_body, e_addII, e_addIB, e_addSS, e_addTT, e_addRR, e_subII, e_mulII, e_fdivII, e_modII, e_powII, e_ltII, e_leII, e_gtII, e_geII, e_is, e_isNot, e_ixT, e_ixR, e_ixS, e_ixD, e_inD, e_isIns, e_fLenS, e_fLenT, e_fLenR, e_fMax2, e_fMin2, e_fAbs, e_fIntI, e_fIntB, e_fBoolI, e_fBoolB, e_mExcF, e_tryNil, e_tryCons, e_mBM, e_append, e_extend, e_gmUnl, e_mEqO, e_mNeO, e_fLenO, e_fBoolO, e_mtTO, e_mInO, e_mNotInO, e_mGetO, e_mComp, e_mComp2, e_mSortedSet, e_mLstRg1, e_mDic1, e_mDic0, e_miRange3, e_mtYes, putD, List.getElem?_cons_zero, List.getElem?_cons_succ, List.set_cons_zero, List.set_cons_succ, List.map_cons, List.map_nil, List.length_cons, List.length_nil, List.cons_append, List.nil_append, List.append_nil, List.replicate, Nat.reduceAdd, Nat.reduceSub, Nat.reduceLeDiff, Nat.zero_add, true_and, and_true, reduceIte, Bool.false_eq_true, Bool.true_eq_false, Bool.not_true, Bool.not_false]
  refine ⟨sl_pos (by decide), ?_⟩
  refine drw h.app (by decide) (by decide) fun d S1 d0 d4 f1 s1 => ?_
  have e1 : S1[S.length]? = some (.lst [.int 1, .int 2, .int 9, .int 30]) := f1.get (by simp) (by omega)
  have f01 : Frx n S S1 := Frx.app.trans f1
  have key : ∀ g : Int, 1 ≤ g → g ≤ 30 → L2.atI [D.int 1, .int 2, .int 9, .int 30] d = some (.int g) → _ := fun g g1 g2 eg => (show ∃ g, L2.atI [D.int 1, .int 2, .int 9, .int 30] d = some (.int g) ∧ 1 ≤ g ∧ g ≤ 30 from ⟨g, eg, g1, g2⟩)
  have hg : ∃ g, L2.atI [D.int 1, .int 2, .int 9, .int 30] d = some (.int g) ∧ 1 ≤ g ∧ g ≤ 30 := by
    have : d = 0 ∨ d = 1 ∨ d = 2 ∨ d = 3 := by omega
    rcases this with rfl | rfl | rfl | rfl
    · exact key 1 (by decide) (by decide) rfl
    · exact key 2 (by decide) (by decide) rfl
    · exact key 9 (by decide) (by decide) rfl
    · exact key 30 (by decide) (by decide) rfl
  obtain ⟨g, eg, g1, g2⟩ := hg
  simp only [e_mNext, e_mSeq, e_mExpr, e_mRet, e_mRetN, e_mIfS, e_mBreak, e_mCont, e_mAsg, e_mPar, e_gmName, e_gmNil, e_gmCons, e_gmTup, e_gmSub, e_mVar, e_mC, e_mOp, e_mtB, e_mtT, e_mtNot, e_mtAnd, e_mtOr, e_mAnd, e_mOr, e_mAndT, e_mOrT, e_mIf, e_mNotB, e_mChain, e_maNil, e_maCons, e_mTup, e_mLst, e_mCall, e_mFld, e_mProp, e_mMeth, e_mMake, e_mSetF, e_mUnO, e_mBinO, e_mCallO, e_mCMeth, e_mRaise, e_mTry, e_mFn, e_mNeg, e_mIsiB, e_mIsiO, e_mFor, e_miRange1, e_miRange2, e_miRangeW, e_miZip, e_zpT, e_mIsi2, e_miAny, e_seqT, e_powW, e_mAug, e_addI, e_fTupleT, e_mSl00, e_mSl01, e_mSl10, e_mSl11, e_miTup, e_miLst, e_body, e_addII, e_addIB, e_addSS, e_addTT, e_addRR, e_subII, e_mulII, e_fdivII, e_modII, e_powII, e_ltII, e_leII, e_gtII, e_geII, e_is, e_isNot, e_ixT, e_ixR, e_ixS, e_ixD, e_inD, e_isIns, e_fLenS, e_fLenT, e_fLenR, e_fMax2, e_fMin2, e_fAbs, e_fIntI, e_fIntB, e_fBoolI, e_fBoolB, e_mExcF, e_tryNil, e_tryCons, e_mBM, e_append, e_extend, e_gmUnl, e_mEqO, e_mNeO, e_fLenO, e_fBoolO, e_mtTO, e_mInO, e_mNotInO, e_mGetO, e_mComp, e_mComp2, e_mSortedSet, e_mLstRg1, e_mDic1, e_mDic0, e_miRange3, e_mtYes, putD, List.getElem?_cons_zero, List.getElem?_cons_succ, List.set_cons_zero, List.set_cons_succ, List.map_cons, List.map_nil, List.length_cons, List.length_nil, List.cons_append, List.nil_append, List.append_nil, List.replicate, Nat.reduceAdd, Nat.reduceSub, Nat.reduceLeDiff, Nat.zero_add, true_and, and_true, reduceIte, Bool.false_eq_true, Bool.true_eq_false, Bool.not_true, Bool.not_false, seqO, e1, eg]
  refine drw s1 (by decide) (by decide) fun d2 S2 a0 a1 f2 s2 => ?_
  refine ⟨⟨by omega, by omega⟩, ?_⟩
  refine forL_ind (fun items sd S' => ∃ (v : Int) (c : Option D), sd = [some (.ref n), some (.int g), some (.int v), c] ∧ 1 ≤ v ∧ Frx n S S' ∧ Src S' n) ?_ ?_ _ _ _ ⟨d2 + 1, none, rfl, by omega, f01.trans f2, s2⟩
  · rintro sd S' ⟨v, c, rfl, hv, f, s⟩
    exact ⟨trivial, hq v S' hv f s⟩
  · rintro i is sd S' ⟨v, c, rfl, hv, f, s⟩ ih
    simp only [e_mNext, e_mSeq, e_mExpr, e_mRet, e_mRetN, e_mIfS, e_mBreak, e_mCont, e_mAsg, e_mPar, e_gmName, e_gmNil, e_gmCons, e_gmTup, e_gmSub, e_mVar, e_mC, e_mOp, e_mtB, e_mtT, e_mtNot, e_mtAnd, e_mtOr, e_mAnd, e_mOr, e_mAndT, e_mOrT, e_mIf, e_mNotB, e_mChain, e_maNil, e_maCons, e_mTup, e_mLst, e_mCall, e_mFld, e_mProp, e_mMeth, e_mMake, e_mSetF, e_mUnO, e_mBinO, e_mCallO, e_mCMeth, e_mRaise, e_mTry, e_mFn, e_mNeg, e_mIsiB, e_mIsiO, e_mFor, e_miRange1, e_miRange2, e_miRangeW, e_miZip, e_zpT, e_mIsi2, e_miAny, e_seqT, e_powW, e_mAug, e_addI, e_fTupleT, e_mSl00, e_mSl01, e_mSl10, e_mSl11, e_miTup, e_miLst, e_body, e_addII, e_addIB, e_addSS, e_addTT, e_addRR, e_subII, e_mulII, e_fdivII, e_modII, e_powII, e_ltII, e_leII, e_gtII, e_geII, e_is, e_isNot, e_ixT, e_ixR, e_ixS, e_ixD, e_inD, e_isIns, e_fLenS, e_fLenT, e_fLenR, e_fMax2, e_fMin2, e_fAbs, e_fIntI, e_fIntB, e_fBoolI, e_fBoolB, e_mExcF, e_tryNil, e_tryCons, e_mBM, e_append, e_extend, e_gmUnl, e_mEqO, e_mNeO, e_fLenO, e_fBoolO, e_mtTO, e_mInO, e_mNotInO, e_mGetO, e_mComp, e_mComp2, e_mSortedSet, e_mLstRg1, e_mDic1, e_mDic0, e_miRange3, e_mtYes, putD, List.getElem?_cons_zero, List.getElem?_cons_succ, List.set_cons_zero, List.set_cons_succ, List.map_cons, List.map_nil, List.length_cons, List.length_nil, List.cons_append, List.nil_append, List.append_nil, List.replicate, Nat.reduceAdd, Nat.reduceSub, Nat.reduceLeDiff, Nat.zero_add, true_and, and_true, reduceIte, Bool.false_eq_true, Bool.true_eq_false, Bool.not_true, Bool.not_false]
    refine ⟨cmul_l (by decide) (by decide), ?_⟩
    refine drw s (by decide) (by decide) fun d3 S3 b0 b1 f3 s3 => ?_
    exact ih _ _ ⟨10 * v + d3, some i, rfl, by omega, f.trans f3, s3⟩
end
end Lw

namespace Lw
open PySem PySem.Spec PyProof.Rows L2

/-! ### what is refused -/
theorem mNe_net {S : Sto} {z z2 : Str} {q : QD} (hz : Net z) (hz2 : Net z2) (h : q (.bl (!decide (z = z2))) S) : mNe (.str z) (.str z2) S q := by
  have e : (("triangle" : Str) == "square") = false := by decide
  have e' : (("square" : Str) == "triangle") = false := by decide
  have e2 : decide (("triangle" : Str) = "square") = false := by decide
  have e3 : decide (("square" : Str) = "triangle") = false := by decide
  rcases hz with rfl | rfl <;> rcases hz2 with rfl | rfl <;> refine mNe_of rfl rfl (by decide +kernel) (by decide +kernel) ?_
  · simpa [PyData.eqv] using h
  · simpa [PyData.eqv, e', e3] using h
  · simpa [PyData.eqv, e, e2] using h
  · simpa [PyData.eqv] using h
def mvF (z : Str) (a b t : Int) : List (Str × D) := [("own_net", .str z), ("own_place", .tup [.int a, .int b]), ("own_turn", .int t)]
theorem fl_net {z : Str} {a b t : Int} : (mvF z a b t).lookup ("own_net" : Str) = some (.str z) := by simp [mvF, List.lookup]
theorem fl_place {z : Str} {a b t : Int} : (mvF z a b t).lookup ("own_place" : Str) = some (.tup [.int a, .int b]) := by
  have e : (("own_place" : Str) == "own_net") = false := by decide
  simp [mvF, List.lookup, e]
theorem fl_turn {z : Str} {a b t : Int} : (mvF z a b t).lookup ("own_turn" : Str) = some (.int t) := by
  have e : (("own_turn" : Str) == "own_net") = false := by decide
  have e2 : (("own_turn" : Str) == "own_place") = false := by decide
  simp [mvF, List.lookup, e, e2]
section
variable {S : Sto} {d : D} {q : QD} {x : QX} {m m2 : Nat} {z z2 : Str} {a b t a2 b2 t2 : Int} {s : String}
/-! ### the law's door -/
end
end Lw

namespace Lw
open PySem PySem.Spec PyProof.Rows L2

/-! ### movements: fields, equality; odd things -/
theorem e_fRepr {S : Sto} {d : D} {q : QD} : fRepr [d] S q = (match tree 9 S d with
    | some p => reprOk p = true ∧ q (.str p.shown) S
    | none => (match dicR S d with
      | some p => reprOkD p = true ∧ q (.str p.shown) S
      | none => False)) := Eq.trans rfl rfl
theorem tr_int {k : Nat} {S : Sto} {i : Int} : tree (k + 1) S (.int i) = some (.int i) := rfl
theorem tr_str {k : Nat} {S : Sto} {i : Str} : tree (k + 1) S (.str i) = some (.str i) := rfl
theorem tr_bl {k : Nat} {S : Sto} {i : Bool} : tree (k + 1) S (.bl i) = some (.bool i) := rfl
theorem tr_non {k : Nat} {S : Sto} : tree (k + 1) S .non = some .none := rfl
theorem tr_tup {k : Nat} {S : Sto} {ds : List D} : tree (k + 1) S (.tup ds) = (treeL (tree k S) ds).map .tuple := rfl
theorem tr_lst {k n : Nat} {S : Sto} {ds : List D} (h : S[n]? = some (.lst ds)) : tree (k + 1) S (.ref n) = (treeL (tree k S) ds).map .list := by
  show ((seqO S n).bind fun ds => (treeL (tree k S) ds).map PyData.list) = _
  unfold seqO
  rw [h]
  rfl
theorem trL_nil {f : D → Option PyData} : treeL f [] = some [] := rfl
theorem trL_cons {f : D → Option PyData} {d : D} {ds : List D} : treeL f (d :: ds) = (match f d, treeL f ds with
    | some a, some b => some (a :: b)
    | _, _ => none) := rfl
theorem lk_given {d : D} : List.lookup ("given" : Str) [("given", d)] = some d := by simp [List.lookup]
theorem get_app {S : Sto} {o : O} : (S ++ [o])[S.length]? = some o := by simp
theorem strOk_net {z : Str} (hz : Net z) : PyData.strOk z = true := by rcases hz with rfl | rfl <;> decide +kernel
theorem sh_str {u : Str} (h : PyData.strOk u = true) : SeqAt.shaped (.str u) = true := by simp [SeqAt.shaped, PyData.canLay0, PyData.depth, h]
theorem mEq_str {S : Sto} {u v : Str} {q : QD} (hu : PyData.strOk u = true) (hv : PyData.strOk v = true) : mEq (.str u) (.str v) S q = q (.bl (u == v)) S := by
  have e1 : tree 9 S (.str u) = some (.str u) := rfl
  have e2 : tree 9 S (.str v) = some (.str v) := rfl
  unfold mEq
  simp only [e1, e2, sh_str hu, sh_str hv, PyData.eqv, true_and, and_self]
theorem mEq_pl {S : Sto} {a b c d : Int} {q : QD} : mEq (.tup [.int a, .int b]) (.tup [.int c, .int d]) S q = q (.bl (a == c && b == d)) S := by
  have e : ∀ i j : Int, tree 9 S (.tup [.int i, .int j]) = some (.tuple [.int i, .int j]) := fun _ _ => rfl
  have s : ∀ i j : Int, SeqAt.shaped (.tuple [.int i, .int j]) = true := fun i j => by simp [SeqAt.shaped, PyData.canLay0, PyData.canLayAll0, PyData.depth, PyData.depthAll]
  unfold mEq
  simp only [e, s, PyData.eqv, PyData.eqvAll, true_and, and_self, Bool.and_true]
theorem mEq_int' {S : Sto} {i j : Int} {q : QD} : mEq (.int i) (.int j) S q = q (.bl (i == j)) S := propext mEq_int
theorem atI_mem {ds : List D} {i : Int} (h0 : 0 ≤ i) (h1 : i < (ds.length : Int)) : ∃ y, y ∈ ds ∧ L2.atI ds i = some y := by
  have hl : i.toNat < ds.length := by omega
  refine ⟨ds[i.toNat], List.getElem_mem hl, ?_⟩
  unfold L2.atI L2.ixN
  simp [h0, h1, hl]
section
variable {S : Sto} {d d2 d3 : D} {q : QD} {x : QX} {n m m2 : Nat} {z z2 : Str} {a b t a2 b2 t2 : Int} {s : String} {p : PyData}
end
/-- an odd thing: of a built-in type, shown by repr -/
structure Odd (S : Sto) (d : D) (p : PyData) : Prop where
  ty : ∃ s, tyD S d = some (.b s)
  tr : tree 9 S d = some p
  rp : reprOk p = true
  sk : PyData.strOk p.shown = true
theorem Odd.mono {S S' : Sto} {d : D} {p : PyData} (o : Odd S d p) (x : Ext S S') : Odd S' d p := ⟨let ⟨s, h⟩ := o.ty; ⟨s, x.tyD h⟩, x.tree 9 d p o.tr, o.rp, o.sk⟩
theorem Odd.okt {S : Sto} {d : D} {p : PyData} (o : Odd S d p) : Okt S d := by
  obtain ⟨s, h⟩ := o.ty
  simp only [Okt, h]
theorem mNe_two {S : Sto} {i j : Nat} {u v : Str} {q : QD} (hi : S[i]? = some (.lst [.str u, .str v])) (hj : S[j]? = some (.lst [.str u, .str v])) (hu : PyData.strOk u = true) (hv : PyData.strOk v = true) (h : q (.bl false) S) : mNe (.ref i) (.ref j) S q := by
  have t : ∀ k, S[k]? = some (.lst [.str u, .str v]) → tree 9 S (.ref k) = some (.list [.str u, .str v]) := fun k hk => by simp [tree, seqO, hk, treeL]
  have hs : SeqAt.shaped (.list [.str u, .str v]) = true := by simp [SeqAt.shaped, PyData.canLay0, PyData.canLayAll0, PyData.depth, PyData.depthAll, hu, hv]
  exact mNe_of (t i hi) (t j hj) hs hs (by simpa [PyData.eqv, PyData.eqvAll] using h)
end Lw

namespace Lw
open PySem PySem.Spec PyProof.Rows L2

/-! ### what is known of a store -/
theorem Ext.frx {S S' : Sto} {n : Nat} (a : Ext S S') : Frx n S S' := ⟨a.len, fun i h _ => a.at_ i h⟩
theorem Ext.src {S S' : Sto} {n : Nat} (a : Ext S S') (h : Src S n) : Src S' n := let ⟨u, v, e, r⟩ := h; ⟨u, v, a.get e, r⟩
/-- the source at n, all of B (but the source) stands, and these cells -/
structure W (n : Nat) (B : Sto) (L : List (Nat × O)) (S : Sto) : Prop where
  src : Src S n
  fr : Frx n B S
  kn : ∀ j o, (j, o) ∈ L → S[j]? = some o ∧ j ≠ n
section
variable {n : Nat} {B : Sto} {L L' : List (Nat × O)} {S S' : Sto} {j j2 : Nat} {o : O} {ds xs : List D} {q : QD} {x : QX} {cn : Str} {fs : List (Str × D)} {K : List (Str × D) → Prop}
theorem W.get (w : W n B L S) (h : (j, o) ∈ L) : S[j]? = some o := (w.kn j o h).1
theorem W.ne (w : W n B L S) (h : (j, o) ∈ L) : j ≠ n := (w.kn j o h).2
theorem W.sub (w : W n B L S) (h : ∀ j o, (j, o) ∈ L' → (j, o) ∈ L) : W n B L' S := ⟨w.src, w.fr, fun j o m => w.kn j o (h j o m)⟩
theorem W.ext (w : W n B L S) (x : Ext S S') : W n B L S' := ⟨x.src w.src, w.fr.trans x.frx, fun j o m => ⟨x.get (w.kn j o m).1, (w.kn j o m).2⟩⟩
theorem W.add (w : W n B L S) (h : S[j]? = some o) (hj : j ≠ n) : W n B ((j, o) :: L) S := ⟨w.src, w.fr, fun i u m => by
  rcases List.mem_cons.mp m with e | m
  · cases e; exact ⟨h, hj⟩
  · exact w.kn i u m⟩
theorem W.frx (w : W n B L S) (f : Frx n S S') (s : Src S' n) : W n B L S' := ⟨s, w.fr.trans f, fun j o m => ⟨f.get (w.kn j o m).1 (w.kn j o m).2, (w.kn j o m).2⟩⟩
/-- a new cell -/
theorem W.new (w : W n B L S) (ej : j = S.length) (eS : S' = S ++ [o]) : W n B ((j, o) :: L) S' := by
  subst ej eS
  have h := w.src.lt
  exact (w.ext Ext.app).add get_app (by omega)
/-- a new cell is written again: it lies behind B and apart from what else is known -/
theorem W.set (w : W n B ((j, o) :: L) S) (hB : B.length ≤ j) (hL : ∀ i u, (i, u) ∈ L → i ≠ j) {o' : O} : W n B ((j, o') :: L) (S.set j o') := by
  have hj := w.kn j o (List.mem_cons_self ..)
  refine ⟨?_, ⟨by simp [w.fr.len], fun i h1 h2 => by rw [List.getElem?_set_ne (by omega)]; exact w.fr.at_ i h1 h2⟩, fun i u m => ?_⟩
  · obtain ⟨u, v, e, r⟩ := w.src
    exact ⟨u, v, by rw [List.getElem?_set_ne hj.2]; exact e, r⟩
  · rcases List.mem_cons.mp m with e | m
    · cases e
      exact ⟨List.getElem?_set_self (List.getElem?_eq_some_iff.mp hj.1).1, hj.2⟩
    · obtain ⟨h1, h2⟩ := w.kn i u (List.mem_cons_of_mem _ m)
      exact ⟨by rw [List.getElem?_set_ne (Ne.symm (hL i u m))]; exact h1, h2⟩
theorem W.lt (w : W n B L S) (h : (j, o) ∈ L) : j < S.length := (List.getElem?_eq_some_iff.mp (w.get h)).1
theorem W.refl (s : Src S n) : W n S [] S := ⟨s, Frx.refl, fun _ _ h => by cases h⟩
/-- a call's own view: all that stands at its start stands -/
theorem W.base (w : W n B L S) (h : ∀ j o, (j, o) ∈ L' → (j, o) ∈ L) : W n S L' S := ⟨w.src, Frx.refl, fun j o m => w.kn j o (h j o m)⟩
theorem W.back {L2 : List (Nat × O)} (w : W n B L S) (w2 : W n S L2 S') : W n B L S' := w.frx w2.fr w2.src
/-! the transformers, new cells named -/
theorem forall2_eq {p : Nat → Sto → Prop} {a : Nat} {b : Sto} : (∀ j S2, j = a → S2 = b → p j S2) = p a b := propext ⟨fun h => h _ _ rfl rfl, fun h j S2 e1 e2 => by rw [e1, e2]; exact h⟩
theorem w_mLst {ml : MA} {sd : Sg} : mLst ml sd S q x = ml sd S (fun ds S1 => ds.length ≤ sizeLine ∧ ∀ j S2, j = S1.length → S2 = S1 ++ [.lst ds] → q (.ref j) S2) x := by
  simp only [e_mLst, forall2_eq]
theorem w_mMake {u : Spec} {dd : List D} {ml : MA} {sd : Sg} : mMake cn u dd ml sd S q x = ml sd S (fun ds S1 => ∀ j S2, j = S1.length → S2 = S1 ++ [.ins cn []] → u (.ref j :: (ds ++ dd)) S2 (fun d S3 => d = .non ∧ q (.ref j) S3) x) x := by
  simp only [e_mMake, forall2_eq]
def wlkD (d : D) (S1 : Sto) (Q : Itm → Sto → Prop) : Prop := match d with
  | .ref n => (match S1[n]? with
    | some (.lst ds) => Q ⟨ds, fun S2 => S2[n]? = some (.lst ds)⟩ S1
    | some (.frz ds) => Q ⟨ds, fun S2 => S2[n]? = some (.frz ds)⟩ S1
    | _ => False)
  | _ => False
theorem w_miLst {m : ME} {sd : Sg} {Q : Itm → Sto → Prop} : miLst m sd S Q x = m sd S (fun d S1 => wlkD d S1 Q) x := Eq.trans rfl rfl
theorem wlk_ok {Q : Itm → Sto → Prop} (w : W n B L S) (h : (j, .lst ds) ∈ L) (hq : Q ⟨ds, fun S2 => S2[j]? = some (.lst ds)⟩ S) : wlkD (.ref j) S Q := by
  unfold wlkD
  simp only [w.get h]
  exact hq
def addD (i j : Nat) (S : Sto) (q : QD) : Prop := match lstO S i, lstO S j with
    | some a, some b => a.length + b.length ≤ sizeLine ∧ ∀ k S2, k = S.length → S2 = S ++ [.lst (a ++ b)] → q (.ref k) S2
    | _, _ => False
theorem w_addRR {i j : Nat} : mAdd (.ref i) (.ref j) S q = addD i j S q := by
  rw [e_addRR]
  unfold addD
  cases lstO S i <;> cases lstO S j <;> first | rfl | simp only [forall2_eq]
theorem addR_ok {i : Nat} (w : W n B L S) (m1 : (j, .lst ds) ∈ L) (m2 : (i, .lst xs) ∈ L) (hl : ds.length + xs.length ≤ 900) (h : ∀ k S', W n B ((k, .lst (ds ++ xs)) :: L) S' → q (.ref k) S') : addD j i S q := by
  unfold addD lstO
  simp only [w.get m1, w.get m2]
  exact ⟨Nat.le_trans hl (sl_pos (by decide)), fun k S2 e1 e2 => h k S2 (w.new e1 e2)⟩
theorem compL_ind {ok : Sto → Prop} {g : MG} {t : MT} {e : ME} {sd0 : Sg} {q : List D → Sto → Prop} (Inv : List D → List D → Sto → Prop) (hn : ∀ acc S, Inv [] acc S → ok S ∧ q acc S)
    (hs : ∀ d ds acc S, Inv (d :: ds) acc S → (∀ acc' S', Inv ds acc' S' → compL ok g t e sd0 q ds acc' S') → ok S ∧ g d sd0 S (fun sd1 S1 => t sd1 S1 (fun k S2 => if k = true then e sd1 S2 (fun y S3 => acc.length < sizeLine ∧ compL ok g t e sd0 q ds (acc ++ [y]) S3) noX else compL ok g t e sd0 q ds acc S2) noX)) :
    ∀ items acc S, Inv items acc S → compL ok g t e sd0 q items acc S
  | [], acc, S, h => by rw [compL]; exact hn acc S h
  | d :: ds, acc, S, h => by rw [compL]; exact hs d ds acc S h fun acc' S' h' => compL_ind Inv hn hs ds acc' S' h'
def unlD (n : Nat) (h : MGs) (j : Nat) (sd : Sg) (S : Sto) (kk : Sg → Sto → Prop) : Prop := match seqO S j with
    | some ds => ds.length = n ∧ h ds sd S kk
    | none => False
theorem w_gmUnl {k j : Nat} {h : MGs} {sd : Sg} {kk : Sg → Sto → Prop} : gmUnl k h (.ref j) sd S kk = unlD k h j sd S kk := Eq.trans rfl rfl
theorem unl_ok {k : Nat} {h : MGs} {sd : Sg} {kk : Sg → Sto → Prop} (w : W n B L S) (m : (j, .lst ds) ∈ L) (hl : ds.length = k) (hq : h ds sd S kk) : unlD k h j sd S kk := by
  unfold unlD seqO
  simp only [w.get m]
  exact ⟨hl, hq⟩
theorem w_mComp {m : ME} {mi : MI} {vs : List Nat} {g : MG} {t : MT} {sd : Sg} : mComp mi vs g t m sd S q x = mi sd S (fun it S1 => compL it.ok g t m (wipeD sd vs) (fun ys S2 => ∀ j S3, j = S2.length → S3 = S2 ++ [.lst ys] → q (.ref j) S3) it.items [] S1) x := by
  simp only [e_mComp, forall2_eq]
theorem w_mComp2 {m : ME} {mi mi1 : MI} {vs vs1 : List Nat} {g g1 : MG} {t t1 : MT} {sd : Sg} : mComp2 mi vs g t mi1 vs1 g1 t1 m sd S q x = mi sd S (fun it S1 => compL2 it.ok g t mi1 vs1 g1 t1 m (wipeD sd vs) (fun ys S2 => ∀ j S3, j = S2.length → S3 = S2 ++ [.lst ys] → q (.ref j) S3) it.items [] S1) x := by
  simp only [e_mComp2, forall2_eq]
theorem compL_nil {ok : Sto → Prop} {g : MG} {t : MT} {e : ME} {sd0 : Sg} {q : List D → Sto → Prop} {acc : List D} {S : Sto} : compL ok g t e sd0 q [] acc S = (ok S ∧ q acc S) := by
  rw [compL]
theorem w_compL {ok : Sto → Prop} {g : MG} {t : MT} {e : ME} {sd0 : Sg} {q : List D → Sto → Prop} {acc ds : List D} {d : D} {S : Sto} : compL ok g t e sd0 q (d :: ds) acc S =
    (ok S ∧ g d sd0 S (fun sd1 S1 => t sd1 S1 (fun k S2 => if k = true then e sd1 S2 (fun y S3 => acc.length < sizeLine ∧ compL ok g t e sd0 q ds (acc ++ [y]) S3) noX else compL ok g t e sd0 q ds acc S2) noX)) := by
  rw [compL]
def setD (cn fn : Str) (d v : D) (S : Sto) (k : Sto → Prop) : Prop := match d with
  | .ref i => (match S[i]? with
    | some (.ins c' fs) => c' = cn ∧ fs.length < 1000 ∧ k (S.set i (.ins cn (putD fn v fs)))
    | _ => False)
  | _ => False
theorem w_mSetF {o e : ME} {fn : Str} {md : MEnds} {sd : Sg} : mSetF cn fn o e md sd S = e sd S (fun v S1 => o sd S1 (fun d S2 => setD cn fn d v S2 (md.nx sd)) (fun e S1 => md.ex e sd S1)) (fun e S1 => md.ex e sd S1) := Eq.trans rfl rfl
theorem set_ok {fn : Str} {v : D} {k : Sto → Prop} (w : W n B ((j, .ins cn fs) :: L) S) (hB : B.length ≤ j) (hL : ∀ i u, (i, u) ∈ L → i ≠ j) (hl : fs.length ≤ 900) (h : ∀ S', W n B ((j, .ins cn (putD fn v fs)) :: L) S' → k S') : setD cn fn (.ref j) v S k := by
  unfold setD
  simp only [w.get (List.mem_cons_self ..)]
  exact ⟨trivial, by omega, h _ (w.set hB hL)⟩
/-! reading -/
theorem ins_ok (w : W n B L S) (m : (j, .ins cn fs) ∈ L) (h : K fs) : isIns cn (.ref j) S K := by
  unfold isIns
  simp only [w.get m]
  exact ⟨trivial, h⟩
theorem ix_ok {i : Int} {y : D} (w : W n B L S) (m : (j, .lst ds) ∈ L) (e : L2.atI ds i = some y) (h : q y S) : mIx (.ref j) (.int i) S q := by
  unfold mIx seqO
  simp only [w.get m, e]
  exact h
theorem len_ok (w : W n B L S) (m : (j, .lst ds) ∈ L) (h : q (.int ds.length) S) : fLen [.ref j] S q := by
  unfold fLen seqO
  simp only [w.get m]
  exact h
theorem app_ok {y : D} (w : W n B ((j, .lst ds) :: L) S) (hB : B.length ≤ j) (hL : ∀ i u, (i, u) ∈ L → i ≠ j) (hl : ds.length ≤ 900) (h : ∀ S', W n B ((j, .lst (ds ++ [y])) :: L) S' → q .non S') : gAppend (.ref j) [y] S q := by
  unfold gAppend lstO
  simp only [w.get (List.mem_cons_self ..)]
  exact ⟨by have := sl_pos (n := 901) (by decide); omega, h _ (w.set hB hL)⟩
theorem tyl_ok (w : W n B L S) (m : (j, .lst ds) ∈ L) : tyM "list" (.ref j) S := by
  unfold tyM seqO
  simp only [w.get m]
  exact ⟨trivial, rfl⟩
/-! draws -/
theorem drw_w {k : Int} (w : W n B L S) (hk : 0 < k) (h2 : k < 1000) (hq : ∀ d S', 0 ≤ d → d < k → W n B L S' → q (.int d) S') : u__law_draw [.ref n, .int k] S q x :=
  drw w.src hk h2 fun d S' a b f s => hq d S' a b (w.frx f s)
theorem drwL_w {k : Int} (w : W n B L S) (hk : 0 < k) (h2 : k.natAbs.log2 < 9000) (hq : ∀ d S', 0 ≤ d → d < k → W n B L S' → q (.int d) S') : u__law_draw [.ref n, .int k] S q x :=
  draw_ok w.src hk h2 fun d S' a b f _ s => hq d S' a b (w.frx f s)
theorem big_w (w : W n B L S) (hq : ∀ v S', 1 ≤ v → v < 10 ^ 31 → W n B L S' → q (.int v) S') : u__law_big [.ref n] S q x := by
  rw [e_u__law_big, e_b__law_big, e_b__law_big_3, e_b__law_big_2, e_b__law_big_1]
  try simp only [e_mNext, e_mSeq, e_mExpr, e_mRet, e_mRetN, e_mIfS, e_mBreak, e_mCont, e_mAsg, e_mPar, e_gmName, e_gmNil, e_gmCons, e_gmTup, e_gmSub, e_mVar, e_mC, e_mOp, e_mtB, e_mtT, e_mtNot, e_mtAnd, e_mtOr, e_mAnd, e_mOr, e_mAndT, e_mOrT, e_mIf, e_mNotB, e_mChain, e_maNil, e_maCons, e_mTup, e_mCall, e_mFld, e_mProp, e_mMeth, e_mUnO, e_mBinO, e_mCallO, e_mCMeth, e_mRaise, e_mTry, e_mFn, e_mNeg, e_mIsiB, e_mIsiO, e_mFor, e_miRange1, e_miRange2, e_miRangeW, e_miZip, e_zpT, e_mIsi2, e_miAny, e_seqT, e_powW, e_mAug, e_addI, e_fTupleT, e_mSl00, e_mSl01, e_mSl10, e_mSl11, e_miTup, e_body, e_addII, e_addIB, e_addSS, e_addTT, e_subII, e_mulII, e_fdivII, e_modII, e_powII, e_ltII, e_leII, e_gtII, e_geII, e_is, e_isNot, e_ixT, e_ixS, e_ixD, e_inD, e_fLenS, e_fLenT, e_fMax2, e_fMin2, e_fAbs, e_fIntI, e_fIntB, e_fBoolI, e_fBoolB, e_mExcF, e_tryNil, e_tryCons, e_mBM, e_mEqO, e_mNeO, e_fLenO, e_fBoolO, e_mtTO, e_mInO, e_mNotInO, e_mGetO, e_mSortedSet, e_mLstRg1, e_mDic1, e_mDic0, e_miRange3, e_mtYes, putD, List.getElem?_cons_zero, List.getElem?_cons_succ, List.set_cons_zero, List.set_cons_succ, List.map_cons, List.map_nil, List.length_cons, List.length_nil, List.cons_append, List.nil_append, List.append_nil, List.replicate, Nat.reduceAdd, Nat.reduceSub, Nat.reduceLeDiff, Nat.zero_add, true_and, and_true, reduceIte, Bool.false_eq_true, Bool.true_eq_false, Bool.not_true, Bool.not_false, w_mLst, w_mMake, w_miLst, w_gmUnl, w_mComp, w_mComp2, compL_nil, w_compL, w_mSetF, w_addRR]
  refine ⟨(sl_pos (by simp)), fun j S1 ej eS => ?_⟩
  have w0 := w
  replace w := w.new ej eS
  refine drw_w w (by decide) (by decide) fun d S2 d0 d4 w => ?_
  have hg : ∃ g : Int, L2.atI [D.int 1, .int 2, .int 9, .int 30] d = some (.int g) ∧ (g = 1 ∨ g = 2 ∨ g = 9 ∨ g = 30) := by
    have : d = 0 ∨ d = 1 ∨ d = 2 ∨ d = 3 := by omega
    rcases this with rfl | rfl | rfl | rfl
    · exact ⟨1, rfl, by decide⟩
    · exact ⟨2, rfl, by decide⟩
    · exact ⟨9, rfl, by decide⟩
    · exact ⟨30, rfl, by decide⟩
  obtain ⟨g, eg, hg⟩ := hg
  refine ix_ok w (by repeat (first | exact List.Mem.head _ | apply List.Mem.tail)) eg ?_
  try simp only [e_mNext, e_mSeq, e_mExpr, e_mRet, e_mRetN, e_mIfS, e_mBreak, e_mCont, e_mAsg, e_mPar, e_gmName, e_gmNil, e_gmCons, e_gmTup, e_gmSub, e_mVar, e_mC, e_mOp, e_mtB, e_mtT, e_mtNot, e_mtAnd, e_mtOr, e_mAnd, e_mOr, e_mAndT, e_mOrT, e_mIf, e_mNotB, e_mChain, e_maNil, e_maCons, e_mTup, e_mCall, e_mFld, e_mProp, e_mMeth, e_mUnO, e_mBinO, e_mCallO, e_mCMeth, e_mRaise, e_mTry, e_mFn, e_mNeg, e_mIsiB, e_mIsiO, e_mFor, e_miRange1, e_miRange2, e_miRangeW, e_miZip, e_zpT, e_mIsi2, e_miAny, e_seqT, e_powW, e_mAug, e_addI, e_fTupleT, e_mSl00, e_mSl01, e_mSl10, e_mSl11, e_miTup, e_body, e_addII, e_addIB, e_addSS, e_addTT, e_subII, e_mulII, e_fdivII, e_modII, e_powII, e_ltII, e_leII, e_gtII, e_geII, e_is, e_isNot, e_ixT, e_ixS, e_ixD, e_inD, e_fLenS, e_fLenT, e_fMax2, e_fMin2, e_fAbs, e_fIntI, e_fIntB, e_fBoolI, e_fBoolB, e_mExcF, e_tryNil, e_tryCons, e_mBM, e_mEqO, e_mNeO, e_fLenO, e_fBoolO, e_mtTO, e_mInO, e_mNotInO, e_mGetO, e_mSortedSet, e_mLstRg1, e_mDic1, e_mDic0, e_miRange3, e_mtYes, putD, List.getElem?_cons_zero, List.getElem?_cons_succ, List.set_cons_zero, List.set_cons_succ, List.map_cons, List.map_nil, List.length_cons, List.length_nil, List.cons_append, List.nil_append, List.append_nil, List.replicate, Nat.reduceAdd, Nat.reduceSub, Nat.reduceLeDiff, Nat.zero_add, true_and, and_true, reduceIte, Bool.false_eq_true, Bool.true_eq_false, Bool.not_true, Bool.not_false, w_mLst, w_mMake, w_miLst, w_gmUnl, w_mComp, w_mComp2, compL_nil, w_compL, w_mSetF, w_addRR]
  refine drw_w w (by decide) (by decide) fun d2 S3 a0 a1 w => ?_
  try simp only [e_mNext, e_mSeq, e_mExpr, e_mRet, e_mRetN, e_mIfS, e_mBreak, e_mCont, e_mAsg, e_mPar, e_gmName, e_gmNil, e_gmCons, e_gmTup, e_gmSub, e_mVar, e_mC, e_mOp, e_mtB, e_mtT, e_mtNot, e_mtAnd, e_mtOr, e_mAnd, e_mOr, e_mAndT, e_mOrT, e_mIf, e_mNotB, e_mChain, e_maNil, e_maCons, e_mTup, e_mCall, e_mFld, e_mProp, e_mMeth, e_mUnO, e_mBinO, e_mCallO, e_mCMeth, e_mRaise, e_mTry, e_mFn, e_mNeg, e_mIsiB, e_mIsiO, e_mFor, e_miRange1, e_miRange2, e_miRangeW, e_miZip, e_zpT, e_mIsi2, e_miAny, e_seqT, e_powW, e_mAug, e_addI, e_fTupleT, e_mSl00, e_mSl01, e_mSl10, e_mSl11, e_miTup, e_body, e_addII, e_addIB, e_addSS, e_addTT, e_subII, e_mulII, e_fdivII, e_modII, e_powII, e_ltII, e_leII, e_gtII, e_geII, e_is, e_isNot, e_ixT, e_ixS, e_ixD, e_inD, e_fLenS, e_fLenT, e_fMax2, e_fMin2, e_fAbs, e_fIntI, e_fIntB, e_fBoolI, e_fBoolB, e_mExcF, e_tryNil, e_tryCons, e_mBM, e_mEqO, e_mNeO, e_fLenO, e_fBoolO, e_mtTO, e_mInO, e_mNotInO, e_mGetO, e_mSortedSet, e_mLstRg1, e_mDic1, e_mDic0, e_miRange3, e_mtYes, putD, List.getElem?_cons_zero, List.getElem?_cons_succ, List.set_cons_zero, List.set_cons_succ, List.map_cons, List.map_nil, List.length_cons, List.length_nil, List.cons_append, List.nil_append, List.append_nil, List.replicate, Nat.reduceAdd, Nat.reduceSub, Nat.reduceLeDiff, Nat.zero_add, true_and, and_true, reduceIte, Bool.false_eq_true, Bool.true_eq_false, Bool.not_true, Bool.not_false, w_mLst, w_mMake, w_miLst, w_gmUnl, w_mComp, w_mComp2, compL_nil, w_compL, w_mSetF, w_addRR]
  refine ⟨⟨by omega, by omega⟩, ?_⟩
  refine forL_ind (fun items sd S' => ∃ (v : Int) (c : Option D), sd = [some (.ref n), some (.int g), some (.int v), c] ∧ 1 ≤ v ∧ v * 10 ^ items.length ≤ 10 ^ 31 - 10 ^ items.length ∧ items.length ≤ 29 ∧ W n B ((j, .lst [D.int 1, .int 2, .int 9, .int 30]) :: L) S') ?_ ?_ _ _ _ ⟨d2 + 1, none, rfl, by omega, ?_, ?_, w⟩
  · rintro sd S' ⟨v, c, rfl, hv, hb, _, w⟩
    refine ⟨trivial, hq v S' hv ?_ (w.sub fun _ _ m => List.mem_cons_of_mem _ m)⟩
    simp only [List.length_nil, Nat.pow_zero, Int.pow_zero] at hb
    omega
  · rintro i is sd S' ⟨v, c, rfl, hv, hb, hl, w⟩ ih
    try simp only [e_mNext, e_mSeq, e_mExpr, e_mRet, e_mRetN, e_mIfS, e_mBreak, e_mCont, e_mAsg, e_mPar, e_gmName, e_gmNil, e_gmCons, e_gmTup, e_gmSub, e_mVar, e_mC, e_mOp, e_mtB, e_mtT, e_mtNot, e_mtAnd, e_mtOr, e_mAnd, e_mOr, e_mAndT, e_mOrT, e_mIf, e_mNotB, e_mChain, e_maNil, e_maCons, e_mTup, e_mCall, e_mFld, e_mProp, e_mMeth, e_mUnO, e_mBinO, e_mCallO, e_mCMeth, e_mRaise, e_mTry, e_mFn, e_mNeg, e_mIsiB, e_mIsiO, e_mFor, e_miRange1, e_miRange2, e_miRangeW, e_miZip, e_zpT, e_mIsi2, e_miAny, e_seqT, e_powW, e_mAug, e_addI, e_fTupleT, e_mSl00, e_mSl01, e_mSl10, e_mSl11, e_miTup, e_body, e_addII, e_addIB, e_addSS, e_addTT, e_subII, e_mulII, e_fdivII, e_modII, e_powII, e_ltII, e_leII, e_gtII, e_geII, e_is, e_isNot, e_ixT, e_ixS, e_ixD, e_inD, e_fLenS, e_fLenT, e_fMax2, e_fMin2, e_fAbs, e_fIntI, e_fIntB, e_fBoolI, e_fBoolB, e_mExcF, e_tryNil, e_tryCons, e_mBM, e_mEqO, e_mNeO, e_fLenO, e_fBoolO, e_mtTO, e_mInO, e_mNotInO, e_mGetO, e_mSortedSet, e_mLstRg1, e_mDic1, e_mDic0, e_miRange3, e_mtYes, putD, List.getElem?_cons_zero, List.getElem?_cons_succ, List.set_cons_zero, List.set_cons_succ, List.map_cons, List.map_nil, List.length_cons, List.length_nil, List.cons_append, List.nil_append, List.append_nil, List.replicate, Nat.reduceAdd, Nat.reduceSub, Nat.reduceLeDiff, Nat.zero_add, true_and, and_true, reduceIte, Bool.false_eq_true, Bool.true_eq_false, Bool.not_true, Bool.not_false, w_mLst, w_mMake, w_miLst, w_gmUnl, w_mComp, w_mComp2, compL_nil, w_compL, w_mSetF, w_addRR]
    refine ⟨cmul_l (by decide) (by decide), ?_⟩
    refine drw_w w (by decide) (by decide) fun d3 S4 b0 b1 w => ?_
    try simp only [e_mNext, e_mSeq, e_mExpr, e_mRet, e_mRetN, e_mIfS, e_mBreak, e_mCont, e_mAsg, e_mPar, e_gmName, e_gmNil, e_gmCons, e_gmTup, e_gmSub, e_mVar, e_mC, e_mOp, e_mtB, e_mtT, e_mtNot, e_mtAnd, e_mtOr, e_mAnd, e_mOr, e_mAndT, e_mOrT, e_mIf, e_mNotB, e_mChain, e_maNil, e_maCons, e_mTup, e_mCall, e_mFld, e_mProp, e_mMeth, e_mUnO, e_mBinO, e_mCallO, e_mCMeth, e_mRaise, e_mTry, e_mFn, e_mNeg, e_mIsiB, e_mIsiO, e_mFor, e_miRange1, e_miRange2, e_miRangeW, e_miZip, e_zpT, e_mIsi2, e_miAny, e_seqT, e_powW, e_mAug, e_addI, e_fTupleT, e_mSl00, e_mSl01, e_mSl10, e_mSl11, e_miTup, e_body, e_addII, e_addIB, e_addSS, e_addTT, e_subII, e_mulII, e_fdivII, e_modII, e_powII, e_ltII, e_leII, e_gtII, e_geII, e_is, e_isNot, e_ixT, e_ixS, e_ixD, e_inD, e_fLenS, e_fLenT, e_fMax2, e_fMin2, e_fAbs, e_fIntI, e_fIntB, e_fBoolI, e_fBoolB, e_mExcF, e_tryNil, e_tryCons, e_mBM, e_mEqO, e_mNeO, e_fLenO, e_fBoolO, e_mtTO, e_mInO, e_mNotInO, e_mGetO, e_mSortedSet, e_mLstRg1, e_mDic1, e_mDic0, e_miRange3, e_mtYes, putD, List.getElem?_cons_zero, List.getElem?_cons_succ, List.set_cons_zero, List.set_cons_succ, List.map_cons, List.map_nil, List.length_cons, List.length_nil, List.cons_append, List.nil_append, List.append_nil, List.replicate, Nat.reduceAdd, Nat.reduceSub, Nat.reduceLeDiff, Nat.zero_add, true_and, and_true, reduceIte, Bool.false_eq_true, Bool.true_eq_false, Bool.not_true, Bool.not_false, w_mLst, w_mMake, w_miLst, w_gmUnl, w_mComp, w_mComp2, compL_nil, w_compL, w_mSetF, w_addRR]
    refine ih _ _ ⟨10 * v + d3, some i, rfl, by omega, ?_, by simp only [List.length_cons] at hl; omega, w⟩
    simp only [List.length_cons, Int.pow_succ] at hb
    have hP : (0 : Int) ≤ 10 ^ is.length := Int.pow_nonneg (by decide)
    generalize (10 : Int) ^ is.length = P at hb hP
    have e1 : v * (P * 10) = 10 * (v * P) := by rw [← Int.mul_assoc, Int.mul_comm]
    have e2 : (10 * v + d3) * P = 10 * (v * P) + d3 * P := by rw [Int.add_mul, Int.mul_assoc]
    have e3 : d3 * P ≤ 9 * P := Int.mul_le_mul_of_nonneg_right (by omega) hP
    rw [e1] at hb
    rw [e2]
    omega
  · rw [rangeD_len]
    have hd : d2 + 1 ≤ 10 := by omega
    have hd0 : 0 ≤ d2 := by omega
    rcases hg with rfl | rfl | rfl | rfl
    · show (d2 + 1) * 10 ^ 0 ≤ 10 ^ 31 - 10 ^ 0; omega
    · show (d2 + 1) * 10 ^ 1 ≤ 10 ^ 31 - 10 ^ 1; omega
    · show (d2 + 1) * 10 ^ 8 ≤ 10 ^ 31 - 10 ^ 8; omega
    · show (d2 + 1) * 10 ^ 29 ≤ 10 ^ 31 - 10 ^ 29; omega
  · rw [rangeD_len]
    rcases hg with rfl | rfl | rfl | rfl <;> decide
end
end Lw

namespace Lw
open PySem PySem.Spec PyProof.Rows L2

/-! ### lists in a known store: built-in functions, walks -/
section
variable {n : Nat} {B : Sto} {L : List (Nat × O)} {S : Sto} {j k : Nat} {ds xs : List D} {q : QD} {Q : Itm → Sto → Prop}
theorem all_w {bs : List Bool} (w : W n B L S) (h : (j, .lst (bs.map D.bl)) ∈ L) (hq : q (.bl (bs.all id)) S) : fAll [.ref j] S q := by
  unfold fAll seqO
  simp only [w.get h]
  exact ⟨bs, rfl, hq⟩
theorem any_w {bs : List Bool} (w : W n B L S) (h : (j, .lst (bs.map D.bl)) ∈ L) (hq : q (.bl (bs.any id)) S) : fAny [.ref j] S q := by
  unfold fAny seqO
  simp only [w.get h]
  exact ⟨bs, rfl, hq⟩
theorem sum_w {ns : List Int} (w : W n B L S) (h : (j, .lst (ns.map D.int)) ∈ L) (hq : q (.int ns.sum) S) : fSum [.ref j] S q := by
  unfold fSum seqO
  simp only [w.get h]
  exact ⟨ns, rfl, hq⟩
theorem sorted_w {ns : List Int} (w : W n B L S) (h : (j, .lst (ns.map D.int)) ∈ L) (hq : ∀ (k : Nat) (S' : Sto) (ns' : List Int), ns'.Perm ns → ns'.Pairwise (· ≤ ·) → W n B ((k, .lst (ns'.map D.int)) :: L) S' → q (.ref k) S') : fSorted [.ref j] S q := by
  unfold fSorted seqO
  simp only [w.get h]
  exact ⟨ns, rfl, fun ns' h1 h2 => hq _ _ ns' h1 h2 (w.new rfl rfl)⟩
theorem tuple_w (w : W n B L S) (h : (j, .lst ds) ∈ L) (hq : q (.tup ds) S) : fTuple [.ref j] S q := by
  unfold fTuple seqO
  simp only [w.get h]
  exact hq
theorem list_w (w : W n B L S) (h : (j, .lst ds) ∈ L) (hq : ∀ k S', W n B ((k, .lst ds) :: L) S' → q (.ref k) S') : fList [.ref j] S q := by
  unfold fList seqO
  simp only [w.get h]
  exact hq _ _ (w.new rfl rfl)
theorem listT_w (w : W n B L S) (hq : ∀ k S', W n B ((k, .lst ds) :: L) S' → q (.ref k) S') : fList [.tup ds] S q := hq _ _ (w.new rfl rfl)
theorem slL_w {l h : Option Int} (w : W n B L S) (m : (j, .lst ds) ∈ L) (hq : ∀ k S', W n B ((k, .lst (cutD ds l h)) :: L) S' → q (.ref k) S') : slD (.ref j) l h S q := by
  unfold slD seqO
  simp only [w.get m]
  exact fun k S2 e1 e2 => hq k S2 (w.new e1 e2)
theorem slT_w {l h : Option Int} : slD (.tup ds) l h S q = q (.tup (cutD ds l h)) S := Eq.trans rfl rfl
theorem seq_w' (w : W n B L S) (h : (j, .lst ds) ∈ L) (hq : Q ⟨ds, fun S2 => S2[j]? = some (.lst ds)⟩ S) : seqW (.ref j) S Q := by
  unfold seqW
  simp only [w.get h]
  exact hq
theorem zip_w (w : W n B L S) (h : (j, .lst ds) ∈ L) (h2 : (k, .lst xs) ∈ L) (hq : Q ⟨zipD ds xs, fun S2 => S2[j]? = some (.lst ds) ∧ S2[k]? = some (.lst xs)⟩ S) : zpD [.ref j, .ref k] S Q := by
  unfold zpD lstO
  simp only [w.get h, w.get h2]
  exact hq
end
end Lw

namespace Lw
open PySem PySem.Spec PyProof.Rows L2

/-! ### sets of moments, plainly: gs the first moments, q the period or 0 -/
theorem ed {q k a s : Int} (hq : 0 < q) (e : k = q * a + s) (h0 : 0 ≤ s) (h1 : s < q) : k / q = a ∧ k % q = s :=
  (Int.ediv_emod_unique hq).mpr ⟨by omega, h0, h1⟩
/-- how many moments of g's row there are up to k -/
def tG (q g k : Int) : Int := if g ≤ k then (k - g) / q + 1 else 0
structure GOk (q g : Int) : Prop where
  nn : 0 ≤ g
  lt : q = 0 ∨ g < q
theorem tG_cf {q g k : Int} (hq : 0 ≤ q) (hg : GOk q g) (hk : 0 ≤ k) : tG q g k = k / q + if g ≤ k % q then 1 else 0 := by
  unfold tG
  obtain ⟨g0, gq⟩ := hg
  by_cases z : q = 0
  · subst z
    simp only [Int.ediv_zero, Int.emod_zero]
    split <;> omega
  · have hq' : 0 < q := by omega
    have gq' : g < q := by omega
    have e := Int.mul_ediv_add_emod k q
    have r0 := Int.emod_nonneg k z
    have r1 := Int.emod_lt_of_pos k hq'
    have a0 : 0 ≤ k / q := Int.ediv_nonneg hk hq
    generalize k / q = a at e a0 ⊢
    generalize k % q = r at e r0 r1 ⊢
    have qa : 0 ≤ q * a := Int.mul_nonneg hq a0
    by_cases h : g ≤ r
    · rw [if_pos h, if_pos (by omega), (ed hq' (a := a) (s := r - g) (by omega) (by omega) (by omega)).1]
    · rw [if_neg h]
      by_cases h2 : a = 0
      · subst h2
        rw [if_neg (by omega)]
        rfl
      · have : q * 1 ≤ q * a := Int.mul_le_mul_of_nonneg_left (by omega) hq
        rw [if_pos (by omega), (ed hq' (a := a - 1) (s := r - g + q) (by rw [Int.mul_sub]; omega) (by omega) (by omega)).1]
        omega
theorem tG_step {q g k : Int} (hq : 0 ≤ q) (hg : GOk q g) (hk : 0 ≤ k) : tG q g k = tG q g (k - 1) + if k % q = g then 1 else 0 := by
  have g0 := hg.nn
  by_cases h0 : k = 0
  · subst h0
    have e : tG q g (0 - 1) = 0 := by
      unfold tG
      rw [if_neg (by omega)]
    rw [tG_cf hq hg (by omega), e]
    rw [Int.zero_ediv, Int.zero_emod]
    by_cases z : g = 0
    · subst z; rfl
    · rw [if_neg (by omega), if_neg (by omega)]
  · rw [tG_cf hq hg hk, tG_cf hq hg (by omega)]
    by_cases z : q = 0
    · subst z
      simp only [Int.ediv_zero, Int.emod_zero]
      split <;> split <;> split <;> omega
    · have hq' : 0 < q := by omega
      have gq : g < q := by
        rcases hg.lt with h | h
        · exact absurd h z
        · exact h
      have e := Int.mul_ediv_add_emod k q
      have r0 := Int.emod_nonneg k z
      have r1 := Int.emod_lt_of_pos k hq'
      by_cases hr : 1 ≤ k % q
      · obtain ⟨e1, e2⟩ := ed (k := k - 1) hq' (a := k / q) (s := k % q - 1) (by omega) (by omega) (by omega)
        rw [e1, e2]
        split <;> split <;> split <;> omega
      · obtain ⟨e1, e2⟩ := ed (k := k - 1) hq' (a := k / q - 1) (s := q - 1) (by rw [Int.mul_sub]; omega) (by omega) (by omega)
        rw [e1, e2]
        split <;> split <;> split <;> omega
/-- how many moments there are up to k -/
def cn (q : Int) : List Int → Int → Int
  | [], _ => 0
  | g :: gs, k => tG q g k + cn q gs k
/-- how many of gs are at most r -/
def ct : List Int → Int → Int
  | [], _ => 0
  | g :: gs, r => (if g ≤ r then 1 else 0) + ct gs r
structure MOk (gs : List Int) (q : Int) : Prop where
  q0 : 0 ≤ q
  ok : ∀ g ∈ gs, GOk q g
  so : gs.Pairwise (· < ·)
theorem MOk.tail {g : Int} {gs : List Int} {q : Int} (h : MOk (g :: gs) q) : MOk gs q := ⟨h.q0, fun x m => h.ok x (List.mem_cons_of_mem _ m), (List.pairwise_cons.mp h.so).2⟩
theorem cn_cf {q k : Int} (hk : 0 ≤ k) : ∀ {gs : List Int}, MOk gs q → cn q gs k = (gs.length : Int) * (k / q) + ct gs (k % q)
  | [], _ => by simp [cn, ct]
  | g :: gs, h => by
    unfold cn ct
    rw [tG_cf h.q0 (h.ok g List.mem_cons_self) hk, cn_cf hk h.tail, List.length_cons]
    push_cast
    rw [Int.add_mul]
    omega
theorem cn_neg {q k : Int} (hk : k < 0) : ∀ {gs : List Int}, MOk gs q → cn q gs k = 0
  | [], _ => rfl
  | g :: gs, h => by
    have g0 := (h.ok g List.mem_cons_self).nn
    unfold cn tG
    rw [if_neg (by omega), cn_neg hk h.tail]
    rfl
theorem cn_step {q k : Int} (hk : 0 ≤ k) : ∀ {gs : List Int}, MOk gs q → cn q gs k = cn q gs (k - 1) + if k % q ∈ gs then 1 else 0
  | [], _ => by simp [cn]
  | g :: gs, h => by
    have hn : g ∉ gs := fun m => by
      have := (List.pairwise_cons.mp h.so).1 g m
      omega
    unfold cn
    rw [tG_step h.q0 (h.ok g List.mem_cons_self) hk, cn_step hk h.tail]
    by_cases e : k % q = g
    · rw [if_pos e, if_neg (by rw [e]; exact hn), if_pos (by rw [e]; exact List.mem_cons_self)]
      omega
    · rw [if_neg e]
      by_cases m : k % q ∈ gs
      · rw [if_pos m, if_pos (List.mem_cons_of_mem _ m)]
        omega
      · rw [if_neg m, if_neg (fun z => by
          rcases List.mem_cons.mp z with z | z
          · exact e z
          · exact m z)]
        omega
theorem cn_le1 {q k : Int} {gs : List Int} (h : MOk gs q) : cn q gs (k - 1) ≤ cn q gs k := by
  by_cases hk : 0 ≤ k
  · rw [cn_step hk h]
    split <;> omega
  · rw [cn_neg (by omega) h, cn_neg (by omega) h]
    exact Int.le_refl _
theorem cn_mono {q : Int} {gs : List Int} (h : MOk gs q) (k : Int) : ∀ n : Nat, cn q gs k ≤ cn q gs (k + n)
  | 0 => by simp
  | n + 1 => by
    have h1 := cn_mono h k n
    have h2 := cn_le1 (k := k + (n + 1 : Nat)) h
    have e : k + ((n + 1 : Nat) : Int) - 1 = k + n := by push_cast; omega
    rw [e] at h2
    omega
theorem cn_lt {q a b : Int} {gs : List Int} (h : MOk gs q) (hb : 0 ≤ b) (hm : b % q ∈ gs) (ab : a < b) : cn q gs a < cn q gs b := by
  have h1 := cn_mono h a (b - 1 - a).toNat
  have e : a + ((b - 1 - a).toNat : Int) = b - 1 := by omega
  rw [e] at h1
  rw [cn_step hb h, if_pos hm]
  omega
theorem cn_inj {q a b : Int} {gs : List Int} (h : MOk gs q) (ha : 0 ≤ a) (hb : 0 ≤ b) (ma : a % q ∈ gs) (mb : b % q ∈ gs) (e : cn q gs a = cn q gs b) : a = b := by
  by_cases h1 : a < b
  · have := cn_lt h hb mb h1; omega
  · by_cases h2 : b < a
    · have := cn_lt h ha ma h2; omega
    · omega
theorem ct_le : ∀ {gs : List Int} {r : Int}, ct gs r ≤ gs.length
  | [], _ => by simp [ct]
  | g :: gs, r => by
    have := ct_le (gs := gs) (r := r)
    unfold ct
    rw [List.length_cons]
    push_cast
    split <;> omega
theorem ct_none : ∀ {gs : List Int} {r : Int}, (∀ g ∈ gs, r < g) → ct gs r = 0
  | [], _, _ => rfl
  | g :: gs, r, h => by
    have := h g List.mem_cons_self
    unfold ct
    rw [if_neg (by omega), ct_none fun x m => h x (List.mem_cons_of_mem _ m)]
    rfl
theorem ct_at : ∀ {gs : List Int} (b : Nat) (v : Int), gs.Pairwise (· < ·) → gs[b]? = some v → ct gs v = b + 1
  | [], b, v, _, e => by simp at e
  | g :: gs, 0, v, h, e => by
    have e : g = v := by simpa using e
    subst e
    unfold ct
    rw [if_pos (Int.le_refl _), ct_none (List.pairwise_cons.mp h).1]
    rfl
  | g :: gs, b + 1, v, h, e => by
    have e : gs[b]? = some v := by simpa using e
    have h1 := (List.pairwise_cons.mp h).1 v (List.mem_of_getElem? e)
    unfold ct
    rw [if_pos (by omega), ct_at b v (List.pairwise_cons.mp h).2 e]
    push_cast
    omega
theorem ct_filter : ∀ {gs : List Int} {r : Int}, ((gs.filter fun g => decide (g ≤ r)).length : Int) = ct gs r
  | [], _ => rfl
  | g :: gs, r => by
    have := ct_filter (gs := gs) (r := r)
    unfold ct
    rw [List.filter_cons]
    by_cases h : g ≤ r
    · simp only [h, decide_true, if_true, List.length_cons]
      push_cast
      omega
    · simp only [h, decide_false, if_false, Bool.false_eq_true]
      omega
/-- the moment of index c * a + b -/
theorem at_ {gs : List Int} {q v a : Int} {b : Nat} (h : MOk gs q) (e : gs[b]? = some v) (ha : 0 ≤ a) (hz : q = 0 → a = 0) :
    0 ≤ v + a * q ∧ (v + a * q) % q ∈ gs ∧ cn q gs (v + a * q) = gs.length * a + b + 1 := by
  have m := List.mem_of_getElem? e
  obtain ⟨v0, vq⟩ := h.ok v m
  have nn : 0 ≤ a * q := Int.mul_nonneg ha h.q0
  have k0 : 0 ≤ v + a * q := by omega
  have key : (v + a * q) / q = a ∧ (v + a * q) % q = v := by
    by_cases z : q = 0
    · have := hz z
      subst z this
      simp
    · have h0 := h.q0
      exact ed (by omega) (by rw [Int.mul_comm q a]; omega) v0 (by omega)
  refine ⟨k0, by rw [key.2]; exact m, ?_⟩
  rw [cn_cf k0 h, key.1, key.2, ct_at b v h.so e]
  omega
/-! the listing -/
def sn (p : Int → Bool) : Nat → List Int
  | 0 => []
  | n + 1 => sn p n ++ if p n then [(n : Int)] else []
theorem sn_lt {p : Int → Bool} : ∀ {n : Nat} {k : Int}, k ∈ sn p n → 0 ≤ k ∧ k < n ∧ p k = true
  | 0, _, h => by simp [sn] at h
  | n + 1, k, h => by
    unfold sn at h
    rcases List.mem_append.mp h with h | h
    · obtain ⟨h1, h2, h3⟩ := sn_lt h
      exact ⟨h1, by push_cast; omega, h3⟩
    · split at h
      · rename_i hp
        have e : k = n := by simpa using h
        subst e
        exact ⟨by omega, by push_cast; omega, hp⟩
      · simp at h
theorem sn_so {p : Int → Bool} : ∀ n : Nat, (sn p n).Pairwise (· < ·)
  | 0 => List.Pairwise.nil
  | n + 1 => by
    unfold sn
    refine List.pairwise_append.mpr ⟨sn_so n, ?_, fun a ha b hb => ?_⟩
    · split
      · exact List.pairwise_singleton ..
      · exact List.Pairwise.nil
    · have := (sn_lt ha).2.1
      split at hb
      · have e : b = n := by simpa using hb
        omega
      · simp at hb
theorem ct_app : ∀ {a b : List Int} {r : Int}, ct (a ++ b) r = ct a r + ct b r
  | [], b, r => by simp [ct]
  | g :: a, b, r => by
    have ih := ct_app (a := a) (b := b) (r := r)
    show (if g ≤ r then 1 else 0) + ct (a ++ b) r = ((if g ≤ r then 1 else 0) + ct a r) + ct b r
    omega
theorem ct_all : ∀ {gs : List Int} {r : Int}, (∀ g ∈ gs, g ≤ r) → ct gs r = gs.length
  | [], _, _ => rfl
  | g :: gs, r, h => by
    unfold ct
    rw [if_pos (h g List.mem_cons_self), ct_all fun x m => h x (List.mem_cons_of_mem _ m), List.length_cons]
    push_cast
    omega
theorem sn_len {q : Int} {gs : List Int} (h : MOk gs q) : ∀ n : Nat, ((sn (fun k => decide (k % q ∈ gs)) n).length : Int) = cn q gs ((n : Int) - 1)
  | 0 => by
    rw [cn_neg (by decide) h]
    rfl
  | n + 1 => by
    unfold sn
    have e : (((n + 1 : Nat) : Int) - 1) = (n : Int) := by push_cast; omega
    rw [e, cn_step (by omega) h, List.length_append]
    have ih := sn_len h n
    push_cast
    rw [ih]
    by_cases m : (n : Int) % q ∈ gs
    · simp [m]
    · simp [m]
/-- the listing's number up to m -/
theorem sn_ct {q : Int} {gs : List Int} (h : MOk gs q) {m : Int} : ∀ n : Nat, m < n → ct (sn (fun k => decide (k % q ∈ gs)) n) m = cn q gs m
  | 0, hm => by
    rw [cn_neg (by omega) h]
    rfl
  | n + 1, hm => by
    by_cases hl : m < n
    · unfold sn
      rw [ct_app, sn_ct h n hl]
      have : ct (if decide ((n : Int) % q ∈ gs) = true then [(n : Int)] else []) m = 0 := by
        split
        · exact ct_none fun g hg => by
            have e : g = n := by simpa using hg
            omega
        · rfl
      rw [this]
      omega
    · have e : m = n := by push_cast at hm; omega
      rw [ct_all, sn_len h (n + 1)]
      · congr 1
        push_cast
        omega
      · intro g hg
        have := (sn_lt hg).2.1
        push_cast at this
        omega
/-- the listing's items are the moments in order -/
theorem sn_at {q : Int} {gs : List Int} (h : MOk gs q) {n i : Nat} {k k2 : Int} (e : (sn (fun k => decide (k % q ∈ gs)) n)[i]? = some k) (h0 : 0 ≤ k2) (hm : k2 % q ∈ gs) (hc : cn q gs k2 = i + 1) : k2 = k := by
  have m := List.mem_of_getElem? e
  obtain ⟨h1, h2, h3⟩ := sn_lt m
  refine cn_inj h h0 h1 hm (of_decide_eq_true h3) ?_
  rw [hc, ← sn_ct h n h2, ct_at i k (sn_so n) e]
end Lw

namespace Lw
open PySem PySem.Spec PyProof.Rows L2

/-! ### Moments in a known store -/
theorem sl_big {n : Nat} (h : n ≤ 3000) : n ≤ sizeLine := by rw [sizeLine_eq]; omega
/-- a comprehension that leaves the store as it is -/
theorem compA {α : Type} {ok : Sto → Prop} {g : MG} {t : MT} {e : ME} {sd0 : Sg} {q : List D → Sto → Prop} {S : Sto} (emb : α → D) (f : α → Option D) (hok : ok S) : ∀ (as : List α) (acc : List D), acc.length + as.length ≤ 2900 →
    (∀ a ∈ as, ∀ (acc : List D) (C : List D → Sto → Prop), acc.length < sizeLine → C (acc ++ (f a).toList) S → g (emb a) sd0 S (fun sd1 S1 => t sd1 S1 (fun k S2 => if k = true then e sd1 S2 (fun y S3 => acc.length < sizeLine ∧ C (acc ++ [y]) S3) noX else C acc S2) noX)) →
    q (acc ++ as.filterMap f) S → compL ok g t e sd0 q (as.map emb) acc S
  | [], acc, _, _, hq => by
    rw [List.map_nil, compL_nil]
    exact ⟨hok, by simpa using hq⟩
  | a :: as, acc, hl, h, hq => by
    rw [List.map_cons, w_compL]
    rw [List.length_cons] at hl
    refine ⟨hok, h a List.mem_cons_self acc _ (by have := sl_big (n := acc.length + 1) (by omega); omega) ?_⟩
    refine compA emb f hok as _ ?_ (fun b m => h b (List.mem_cons_of_mem _ m)) ?_
    · cases f a <;> simp <;> omega
    · cases e : f a <;> simpa [List.filterMap_cons, e] using hq
theorem comp2A {α : Type} {ok : Sto → Prop} {g g1 : MG} {t t1 : MT} {mi1 : MI} {vs1 : List Nat} {e : ME} {sd0 : Sg} {q : List D → Sto → Prop} {S : Sto} (emb : α → D) (f : α → List D) (hok : ok S) : ∀ (as : List α) (acc : List D), acc.length + (as.flatMap f).length ≤ 2900 →
    (∀ a ∈ as, ∀ (acc : List D) (C : List D → Sto → Prop), acc.length + (f a).length ≤ 2900 → C (acc ++ f a) S → g (emb a) sd0 S (fun sd1 S1 => t sd1 S1 (fun k S2 => if k = true then mi1 sd1 S2 (fun it S3 => compL it.ok g1 t1 e (wipeD sd1 vs1) (fun acc' S' => C acc' S') it.items acc S3) noX else C acc S2) noX)) →
    q (acc ++ as.flatMap f) S → compL2 ok g t mi1 vs1 g1 t1 e sd0 q (as.map emb) acc S
  | [], acc, _, _, hq => by
    rw [List.map_nil, compL2]
    exact ⟨hok, by simpa using hq⟩
  | a :: as, acc, hl, h, hq => by
    rw [List.map_cons, compL2]
    rw [List.flatMap_cons, List.length_append] at hl
    refine ⟨hok, h a List.mem_cons_self acc _ (by omega) ?_⟩
    refine comp2A emb f hok as _ (by rw [List.length_append]; omega) (fun b m => h b (List.mem_cons_of_mem _ m)) ?_
    rw [List.append_assoc]
    rw [List.flatMap_cons] at hq
    exact hq
/-- ascending -/
def asc : List Int → Bool
  | [] => true
  | [_] => true
  | a :: b :: r => decide (a < b) && asc (b :: r)
theorem asc_of : ∀ {l : List Int}, l.Pairwise (· < ·) → asc l = true
  | [], _ => rfl
  | [_], _ => rfl
  | a :: b :: r, h => by
    have h1 := (List.pairwise_cons.mp h).1 b List.mem_cons_self
    unfold asc
    rw [asc_of (List.pairwise_cons.mp h).2, decide_eq_true h1]
    rfl
theorem of_asc : ∀ {l : List Int}, asc l = true → l.Pairwise (· < ·)
  | [], _ => List.Pairwise.nil
  | [_], _ => List.pairwise_singleton ..
  | a :: b :: r, h => by
    unfold asc at h
    obtain ⟨h1, h2⟩ := Bool.and_eq_true_iff.mp h
    have ih := of_asc h2
    refine List.pairwise_cons.mpr ⟨fun c m => ?_, ih⟩
    have h1 := of_decide_eq_true h1
    rcases List.mem_cons.mp m with e | m
    · omega
    · have := (List.pairwise_cons.mp ih).1 c m
      omega
theorem zip_asc : ∀ l : List Int, (((l.zip (l.drop 1)).map fun p => decide (p.1 < p.2)).all id) = asc l
  | [] => rfl
  | [_] => rfl
  | a :: b :: r => by
    have ih := zip_asc (b :: r)
    unfold asc
    rw [← ih]
    rfl
theorem zipD_ints : ∀ a b : List Int, zipD (a.map D.int) (b.map D.int) = (a.zip b).map fun p => D.tup [.int p.1, .int p.2]
  | [], b => by simp [zipD]
  | a :: as, [] => by simp [zipD]
  | a :: as, b :: bs => by
    have ih := zipD_ints as bs
    unfold zipD at ih ⊢
    simp only [List.map_cons, List.zip_cons_cons, List.zipWith_cons_cons] at ih ⊢
    rw [ih]
section
variable {n : Nat} {B : Sto} {L L' : List (Nat × O)} {S S0 S' : Sto} {j j2 i : Nat} {o : O} {ds xs : List D} {d : D} {q : QD} {x : QX} {t k p per : Int} {K : QD} {md : MEnds} {fs gs : List Int}
theorem ty_lst (h : S[i]? = some (.lst ds)) : tyD S (.ref i) = some (.b "list") := by simp [tyD, h]
theorem isInt_is : isIntD d = true → ∃ i, d = .int i := fun h => by
  cases d with
  | int i => exact ⟨i, rfl⟩
  | _ => cases h
theorem check_least_ok {l : Int} (o : Okt S d) (h1 : ∀ i, d = .int i → l ≤ i → q .non S) (h2 : (isIntD d = false ∨ ∃ i, d = .int i ∧ i < l) → x ⟨"InvalidNumber", [("given", d)]⟩ S) : u_check_least [d, .int l] S q x := by
  rw [e_u_check_least, e_b_check_least]
  simp only [e_mNext, e_mSeq, e_mExpr, e_mRet, e_mRetN, e_mIfS, e_mBreak, e_mCont, e_mAsg, e_mPar, e_gmName, e_gmNil, e_gmCons, e_gmTup, e_gmSub, e_mVar, e_mC, e_mOp, e_mtB, e_mtT, e_mtNot, e_mtAnd, e_mtOr, e_mAnd, e_mOr, e_mAndT, e_mOrT, e_mIf, e_mNotB, e_mChain, e_maNil, e_maCons, e_mTup, e_mCall, e_mFld, e_mProp, e_mMeth, e_mUnO, e_mBinO, e_mCallO, e_mCMeth, e_mRaise, e_mTry, e_mFn, e_mNeg, e_mIsiB, e_mIsiO, e_mFor, e_miRange1, e_miRange2, e_miRangeW, e_miZip, e_zpT, e_mIsi2, e_miAny, e_seqT, e_powW, e_mAug, e_addI, e_fTupleT, e_mSl00, e_mSl01, e_mSl10, e_mSl11, e_miTup, e_body, e_addII, e_addIB, e_addSS, e_addTT, e_subII, e_mulII, e_fdivII, e_modII, e_powII, e_ltII, e_leII, e_gtII, e_geII, e_is, e_isNot, e_ixT, e_ixS, e_ixD, e_inD, e_fLenS, e_fLenT, e_fMax2, e_fMin2, e_fAbs, e_fIntI, e_fIntB, e_fBoolI, e_fBoolB, e_mExcF, e_tryNil, e_tryCons, e_mBM, e_mEqO, e_mNeO, e_fLenO, e_fBoolO, e_mtTO, e_mInO, e_mNotInO, e_mGetO, e_mSortedSet, e_mLstRg1, e_mDic1, e_mDic0, e_miRange3, e_mtYes, putD, List.getElem?_cons_zero, List.getElem?_cons_succ, List.set_cons_zero, List.set_cons_succ, List.map_cons, List.map_nil, List.length_cons, List.length_nil, List.cons_append, List.nil_append, List.append_nil, List.replicate, Nat.reduceAdd, Nat.reduceSub, Nat.reduceLeDiff, Nat.zero_add, true_and, and_true, reduceIte, Bool.false_eq_true, Bool.true_eq_false, Bool.not_true, Bool.not_false, w_mLst, w_mMake, w_miLst, w_gmUnl, w_mComp, w_mComp2, compL_nil, w_compL, w_mSetF, w_addRR]
  refine is_integer_ok o ?_
  cases e : isIntD d with
  | false => simpa using h2 (.inl e)
  | true =>
    obtain ⟨i, rfl⟩ := isInt_is e
    simp only [e_mNext, e_mSeq, e_mExpr, e_mRet, e_mRetN, e_mIfS, e_mBreak, e_mCont, e_mAsg, e_mPar, e_gmName, e_gmNil, e_gmCons, e_gmTup, e_gmSub, e_mVar, e_mC, e_mOp, e_mtB, e_mtT, e_mtNot, e_mtAnd, e_mtOr, e_mAnd, e_mOr, e_mAndT, e_mOrT, e_mIf, e_mNotB, e_mChain, e_maNil, e_maCons, e_mTup, e_mCall, e_mFld, e_mProp, e_mMeth, e_mUnO, e_mBinO, e_mCallO, e_mCMeth, e_mRaise, e_mTry, e_mFn, e_mNeg, e_mIsiB, e_mIsiO, e_mFor, e_miRange1, e_miRange2, e_miRangeW, e_miZip, e_zpT, e_mIsi2, e_miAny, e_seqT, e_powW, e_mAug, e_addI, e_fTupleT, e_mSl00, e_mSl01, e_mSl10, e_mSl11, e_miTup, e_body, e_addII, e_addIB, e_addSS, e_addTT, e_subII, e_mulII, e_fdivII, e_modII, e_powII, e_ltII, e_leII, e_gtII, e_geII, e_is, e_isNot, e_ixT, e_ixS, e_ixD, e_inD, e_fLenS, e_fLenT, e_fMax2, e_fMin2, e_fAbs, e_fIntI, e_fIntB, e_fBoolI, e_fBoolB, e_mExcF, e_tryNil, e_tryCons, e_mBM, e_mEqO, e_mNeO, e_fLenO, e_fBoolO, e_mtTO, e_mInO, e_mNotInO, e_mGetO, e_mSortedSet, e_mLstRg1, e_mDic1, e_mDic0, e_miRange3, e_mtYes, putD, List.getElem?_cons_zero, List.getElem?_cons_succ, List.set_cons_zero, List.set_cons_succ, List.map_cons, List.map_nil, List.length_cons, List.length_nil, List.cons_append, List.nil_append, List.append_nil, List.replicate, Nat.reduceAdd, Nat.reduceSub, Nat.reduceLeDiff, Nat.zero_add, true_and, and_true, reduceIte, Bool.false_eq_true, Bool.true_eq_false, Bool.not_true, Bool.not_false, w_mLst, w_mMake, w_miLst, w_gmUnl, w_mComp, w_mComp2, compL_nil, w_compL, w_mSetF, w_addRR]
    cases e2 : decide (i < l) with
    | true => simpa using h2 (.inr ⟨i, rfl, of_decide_eq_true e2⟩)
    | false => simpa using h1 i rfl (by have := of_decide_eq_false e2; omega)
theorem cut1 {ds : List D} : cutD ds (some 1) none = ds.drop 1 := by
  unfold cutD
  have e : HT.sIx ds.length 0 (some 1) = min 1 ds.length := HT.sIx_nat ds.length 0 1
  rw [e, HT.sIx_none, List.take_of_length_le (by simp)]
  cases ds with
  | nil => rfl
  | cons a as => simp
theorem cutTo {ds : List D} {m : Nat} : cutD ds none (some (m : Int)) = ds.take m := by
  unfold cutD
  rw [HT.sIx_nat, HT.sIx_none, List.drop_zero, Nat.sub_zero]
  by_cases h : m ≤ ds.length
  · rw [Nat.min_eq_left h]
  · rw [Nat.min_eq_right (by omega), List.take_of_length_le (Nat.le_refl _), List.take_of_length_le (by omega)]
theorem isLT : (isB "list" "list" || isB "tuple" "list") = true := by decide +kernel
theorem int_ge {v : Int} : mGe (.int v) (.int 0) S q = q (.bl (decide (0 ≤ v))) S := Eq.trans rfl rfl
theorem map_some {α β : Type} (f : α → β) : ∀ l : List α, l.filterMap (fun a => some (f a)) = l.map f
  | [] => rfl
  | a :: l => by rw [List.filterMap_cons, map_some f l]; rfl
theorem are_firsts_w (w : W n B L S) (m : (i, .lst (fs.map D.int)) ∈ L) (hl : fs.length ≤ 2000) (hq : ∀ S', W n B L S' → q (.bl ((fs.all fun f => decide (0 ≤ f)) && asc fs)) S') : u_are_firsts [.ref i] S q x := by
  rw [e_u_are_firsts, e_b_are_firsts, e_b_are_firsts_1]
  simp only [e_mNext, e_mSeq, e_mExpr, e_mRet, e_mRetN, e_mIfS, e_mBreak, e_mCont, e_mAsg, e_mPar, e_gmName, e_gmNil, e_gmCons, e_gmTup, e_gmSub, e_mVar, e_mC, e_mOp, e_mtB, e_mtT, e_mtNot, e_mtAnd, e_mtOr, e_mAnd, e_mOr, e_mAndT, e_mOrT, e_mIf, e_mNotB, e_mChain, e_maNil, e_maCons, e_mTup, e_mCall, e_mFld, e_mProp, e_mMeth, e_mUnO, e_mBinO, e_mCallO, e_mCMeth, e_mRaise, e_mTry, e_mFn, e_mNeg, e_mIsiB, e_mIsiO, e_mFor, e_miRange1, e_miRange2, e_miRangeW, e_miZip, e_zpT, e_mIsi2, e_miAny, e_seqT, e_powW, e_mAug, e_addI, e_fTupleT, e_mSl00, e_mSl01, e_mSl10, e_mSl11, e_miTup, e_body, e_addII, e_addIB, e_addSS, e_addTT, e_subII, e_mulII, e_fdivII, e_modII, e_powII, e_ltII, e_leII, e_gtII, e_geII, e_is, e_isNot, e_ixT, e_ixS, e_ixD, e_inD, e_fLenS, e_fLenT, e_fMax2, e_fMin2, e_fAbs, e_fIntI, e_fIntB, e_fBoolI, e_fBoolB, e_mExcF, e_tryNil, e_tryCons, e_mBM, e_mEqO, e_mNeO, e_fLenO, e_fBoolO, e_mtTO, e_mInO, e_mNotInO, e_mGetO, e_mSortedSet, e_mLstRg1, e_mDic1, e_mDic0, e_miRange3, e_mtYes, putD, List.getElem?_cons_zero, List.getElem?_cons_succ, List.set_cons_zero, List.set_cons_succ, List.map_cons, List.map_nil, List.length_cons, List.length_nil, List.cons_append, List.nil_append, List.append_nil, List.replicate, Nat.reduceAdd, Nat.reduceSub, Nat.reduceLeDiff, Nat.zero_add, true_and, and_true, reduceIte, Bool.false_eq_true, Bool.true_eq_false, Bool.not_true, Bool.not_false, w_mLst, w_mMake, w_miLst, w_gmUnl, w_mComp, w_mComp2, compL_nil, w_compL, w_mSetF, w_addRR, ty_lst (w.get m), isLT]
  refine len_ok w m ?_
  rw [List.length_map]
  have e1 : decide ((2000 : Int) < (fs.length : Int)) = false := decide_eq_false (by omega)
  simp only [e_mNext, e_mSeq, e_mExpr, e_mRet, e_mRetN, e_mIfS, e_mBreak, e_mCont, e_mAsg, e_mPar, e_gmName, e_gmNil, e_gmCons, e_gmTup, e_gmSub, e_mVar, e_mC, e_mOp, e_mtB, e_mtT, e_mtNot, e_mtAnd, e_mtOr, e_mAnd, e_mOr, e_mAndT, e_mOrT, e_mIf, e_mNotB, e_mChain, e_maNil, e_maCons, e_mTup, e_mCall, e_mFld, e_mProp, e_mMeth, e_mUnO, e_mBinO, e_mCallO, e_mCMeth, e_mRaise, e_mTry, e_mFn, e_mNeg, e_mIsiB, e_mIsiO, e_mFor, e_miRange1, e_miRange2, e_miRangeW, e_miZip, e_zpT, e_mIsi2, e_miAny, e_seqT, e_powW, e_mAug, e_addI, e_fTupleT, e_mSl00, e_mSl01, e_mSl10, e_mSl11, e_miTup, e_body, e_addII, e_addIB, e_addSS, e_addTT, e_subII, e_mulII, e_fdivII, e_modII, e_powII, e_ltII, e_leII, e_gtII, e_geII, e_is, e_isNot, e_ixT, e_ixS, e_ixD, e_inD, e_fLenS, e_fLenT, e_fMax2, e_fMin2, e_fAbs, e_fIntI, e_fIntB, e_fBoolI, e_fBoolB, e_mExcF, e_tryNil, e_tryCons, e_mBM, e_mEqO, e_mNeO, e_fLenO, e_fBoolO, e_mtTO, e_mInO, e_mNotInO, e_mGetO, e_mSortedSet, e_mLstRg1, e_mDic1, e_mDic0, e_miRange3, e_mtYes, putD, List.getElem?_cons_zero, List.getElem?_cons_succ, List.set_cons_zero, List.set_cons_succ, List.map_cons, List.map_nil, List.length_cons, List.length_nil, List.cons_append, List.nil_append, List.append_nil, List.replicate, Nat.reduceAdd, Nat.reduceSub, Nat.reduceLeDiff, Nat.zero_add, true_and, and_true, reduceIte, Bool.false_eq_true, Bool.true_eq_false, Bool.not_true, Bool.not_false, w_mLst, w_mMake, w_miLst, w_gmUnl, w_mComp, w_mComp2, compL_nil, w_compL, w_mSetF, w_addRR, wipeD, e1]
  first | refine wlk_ok w m ?_ | refine seq_w' w m ?_
  refine compA D.int (fun v => some (D.bl (decide (0 ≤ v)))) (w.get m) fs [] (by simp; omega) (fun v _ acc C hl h => ?_) ?_
  · simp only [e_mNext, e_mSeq, e_mExpr, e_mRet, e_mRetN, e_mIfS, e_mBreak, e_mCont, e_mAsg, e_mPar, e_gmName, e_gmNil, e_gmCons, e_gmTup, e_gmSub, e_mVar, e_mC, e_mOp, e_mtB, e_mtT, e_mtNot, e_mtAnd, e_mtOr, e_mAnd, e_mOr, e_mAndT, e_mOrT, e_mIf, e_mNotB, e_mChain, e_maNil, e_maCons, e_mTup, e_mCall, e_mFld, e_mProp, e_mMeth, e_mUnO, e_mBinO, e_mCallO, e_mCMeth, e_mRaise, e_mTry, e_mFn, e_mNeg, e_mIsiB, e_mIsiO, e_mFor, e_miRange1, e_miRange2, e_miRangeW, e_miZip, e_zpT, e_mIsi2, e_miAny, e_seqT, e_powW, e_mAug, e_addI, e_fTupleT, e_mSl00, e_mSl01, e_mSl10, e_mSl11, e_miTup, e_body, e_addII, e_addIB, e_addSS, e_addTT, e_subII, e_mulII, e_fdivII, e_modII, e_powII, e_ltII, e_leII, e_gtII, e_geII, e_is, e_isNot, e_ixT, e_ixS, e_ixD, e_inD, e_fLenS, e_fLenT, e_fMax2, e_fMin2, e_fAbs, e_fIntI, e_fIntB, e_fBoolI, e_fBoolB, e_mExcF, e_tryNil, e_tryCons, e_mBM, e_mEqO, e_mNeO, e_fLenO, e_fBoolO, e_mtTO, e_mInO, e_mNotInO, e_mGetO, e_mSortedSet, e_mLstRg1, e_mDic1, e_mDic0, e_miRange3, e_mtYes, putD, List.getElem?_cons_zero, List.getElem?_cons_succ, List.set_cons_zero, List.set_cons_succ, List.map_cons, List.map_nil, List.length_cons, List.length_nil, List.cons_append, List.nil_append, List.append_nil, List.replicate, Nat.reduceAdd, Nat.reduceSub, Nat.reduceLeDiff, Nat.zero_add, true_and, and_true, reduceIte, Bool.false_eq_true, Bool.true_eq_false, Bool.not_true, Bool.not_false, w_mLst, w_mMake, w_miLst, w_gmUnl, w_mComp, w_mComp2, compL_nil, w_compL, w_mSetF, w_addRR]
    refine is_integer_ok True.intro ?_
    simp only [e_mNext, e_mSeq, e_mExpr, e_mRet, e_mRetN, e_mIfS, e_mBreak, e_mCont, e_mAsg, e_mPar, e_gmName, e_gmNil, e_gmCons, e_gmTup, e_gmSub, e_mVar, e_mC, e_mOp, e_mtB, e_mtT, e_mtNot, e_mtAnd, e_mtOr, e_mAnd, e_mOr, e_mAndT, e_mOrT, e_mIf, e_mNotB, e_mChain, e_maNil, e_maCons, e_mTup, e_mCall, e_mFld, e_mProp, e_mMeth, e_mUnO, e_mBinO, e_mCallO, e_mCMeth, e_mRaise, e_mTry, e_mFn, e_mNeg, e_mIsiB, e_mIsiO, e_mFor, e_miRange1, e_miRange2, e_miRangeW, e_miZip, e_zpT, e_mIsi2, e_miAny, e_seqT, e_powW, e_mAug, e_addI, e_fTupleT, e_mSl00, e_mSl01, e_mSl10, e_mSl11, e_miTup, e_body, e_addII, e_addIB, e_addSS, e_addTT, e_subII, e_mulII, e_fdivII, e_modII, e_powII, e_ltII, e_leII, e_gtII, e_geII, e_is, e_isNot, e_ixT, e_ixS, e_ixD, e_inD, e_fLenS, e_fLenT, e_fMax2, e_fMin2, e_fAbs, e_fIntI, e_fIntB, e_fBoolI, e_fBoolB, e_mExcF, e_tryNil, e_tryCons, e_mBM, e_mEqO, e_mNeO, e_fLenO, e_fBoolO, e_mtTO, e_mInO, e_mNotInO, e_mGetO, e_mSortedSet, e_mLstRg1, e_mDic1, e_mDic0, e_miRange3, e_mtYes, putD, List.getElem?_cons_zero, List.getElem?_cons_succ, List.set_cons_zero, List.set_cons_succ, List.map_cons, List.map_nil, List.length_cons, List.length_nil, List.cons_append, List.nil_append, List.append_nil, List.replicate, Nat.reduceAdd, Nat.reduceSub, Nat.reduceLeDiff, Nat.zero_add, true_and, and_true, reduceIte, Bool.false_eq_true, Bool.true_eq_false, Bool.not_true, Bool.not_false, w_mLst, w_mMake, w_miLst, w_gmUnl, w_mComp, w_mComp2, compL_nil, w_compL, w_mSetF, w_addRR, show isIntD (.int v) = true from rfl]
    exact ⟨hl, h⟩
  · rw [List.nil_append, map_some]
    intro j2 S2 e2 e3
    have w0 := w
    replace w := w.new e2 e3
    refine all_w (bs := fs.map fun v => decide (0 ≤ v)) w (by rw [List.map_map]; exact List.mem_cons_self) ?_
    have e4 : ((fs.map fun v => decide (0 ≤ v)).all id) = fs.all fun f => decide (0 ≤ f) := by simp [List.all_map, Function.comp_def]
    rw [e4]
    cases e5 : fs.all fun f => decide (0 ≤ f) with
    | false =>
      simp only [Bool.not_false, reduceIte]
      rw [e5] at hq
      exact hq _ (w.sub fun _ _ m => .tail _ m)
    | true =>
      simp only [e_mNext, e_mSeq, e_mExpr, e_mRet, e_mRetN, e_mIfS, e_mBreak, e_mCont, e_mAsg, e_mPar, e_gmName, e_gmNil, e_gmCons, e_gmTup, e_gmSub, e_mVar, e_mC, e_mOp, e_mtB, e_mtT, e_mtNot, e_mtAnd, e_mtOr, e_mAnd, e_mOr, e_mAndT, e_mOrT, e_mIf, e_mNotB, e_mChain, e_maNil, e_maCons, e_mTup, e_mCall, e_mFld, e_mProp, e_mMeth, e_mUnO, e_mBinO, e_mCallO, e_mCMeth, e_mRaise, e_mTry, e_mFn, e_mNeg, e_mIsiB, e_mIsiO, e_mFor, e_miRange1, e_miRange2, e_miRangeW, e_miZip, e_zpT, e_mIsi2, e_miAny, e_seqT, e_powW, e_mAug, e_addI, e_fTupleT, e_mSl00, e_mSl01, e_mSl10, e_mSl11, e_miTup, e_body, e_addII, e_addIB, e_addSS, e_addTT, e_subII, e_mulII, e_fdivII, e_modII, e_powII, e_ltII, e_leII, e_gtII, e_geII, e_is, e_isNot, e_ixT, e_ixS, e_ixD, e_inD, e_fLenS, e_fLenT, e_fMax2, e_fMin2, e_fAbs, e_fIntI, e_fIntB, e_fBoolI, e_fBoolB, e_mExcF, e_tryNil, e_tryCons, e_mBM, e_mEqO, e_mNeO, e_fLenO, e_fBoolO, e_mtTO, e_mInO, e_mNotInO, e_mGetO, e_mSortedSet, e_mLstRg1, e_mDic1, e_mDic0, e_miRange3, e_mtYes, putD, List.getElem?_cons_zero, List.getElem?_cons_succ, List.set_cons_zero, List.set_cons_succ, List.map_cons, List.map_nil, List.length_cons, List.length_nil, List.cons_append, List.nil_append, List.append_nil, List.replicate, Nat.reduceAdd, Nat.reduceSub, Nat.reduceLeDiff, Nat.zero_add, true_and, and_true, reduceIte, Bool.false_eq_true, Bool.true_eq_false, Bool.not_true, Bool.not_false, w_mLst, w_mMake, w_miLst, w_gmUnl, w_mComp, w_mComp2, compL_nil, w_compL, w_mSetF, w_addRR]
      rw [e5, Bool.true_and] at hq
      have m2 : (i, .lst (fs.map D.int)) ∈ (j2, .lst (fs.map fun v => D.bl (decide (0 ≤ v)))) :: L := .tail _ m
      refine slL_w w m2 fun j3 S3 w => ?_
      rw [cut1, ← List.map_drop] at w
      refine zip_w (ds := fs.map D.int) (xs := (fs.drop 1).map D.int) w (.tail _ m2) (List.mem_cons_self ..) ?_
      simp only [zipD_ints]
      refine compA (fun p : Int × Int => D.tup [.int p.1, .int p.2]) (fun p => some (D.bl (decide (p.1 < p.2)))) ⟨w.get (.tail _ m2), w.get (List.mem_cons_self ..)⟩ (fs.zip (fs.drop 1)) [] (by simp; omega) (fun p _ acc C hl h => ?_) ?_
      · simp only [e_mNext, e_mSeq, e_mExpr, e_mRet, e_mRetN, e_mIfS, e_mBreak, e_mCont, e_mAsg, e_mPar, e_gmName, e_gmNil, e_gmCons, e_gmTup, e_gmSub, e_mVar, e_mC, e_mOp, e_mtB, e_mtT, e_mtNot, e_mtAnd, e_mtOr, e_mAnd, e_mOr, e_mAndT, e_mOrT, e_mIf, e_mNotB, e_mChain, e_maNil, e_maCons, e_mTup, e_mCall, e_mFld, e_mProp, e_mMeth, e_mUnO, e_mBinO, e_mCallO, e_mCMeth, e_mRaise, e_mTry, e_mFn, e_mNeg, e_mIsiB, e_mIsiO, e_mFor, e_miRange1, e_miRange2, e_miRangeW, e_miZip, e_zpT, e_mIsi2, e_miAny, e_seqT, e_powW, e_mAug, e_addI, e_fTupleT, e_mSl00, e_mSl01, e_mSl10, e_mSl11, e_miTup, e_body, e_addII, e_addIB, e_addSS, e_addTT, e_subII, e_mulII, e_fdivII, e_modII, e_powII, e_ltII, e_leII, e_gtII, e_geII, e_is, e_isNot, e_ixT, e_ixS, e_ixD, e_inD, e_fLenS, e_fLenT, e_fMax2, e_fMin2, e_fAbs, e_fIntI, e_fIntB, e_fBoolI, e_fBoolB, e_mExcF, e_tryNil, e_tryCons, e_mBM, e_mEqO, e_mNeO, e_fLenO, e_fBoolO, e_mtTO, e_mInO, e_mNotInO, e_mGetO, e_mSortedSet, e_mLstRg1, e_mDic1, e_mDic0, e_miRange3, e_mtYes, putD, List.getElem?_cons_zero, List.getElem?_cons_succ, List.set_cons_zero, List.set_cons_succ, List.map_cons, List.map_nil, List.length_cons, List.length_nil, List.cons_append, List.nil_append, List.append_nil, List.replicate, Nat.reduceAdd, Nat.reduceSub, Nat.reduceLeDiff, Nat.zero_add, true_and, and_true, reduceIte, Bool.false_eq_true, Bool.true_eq_false, Bool.not_true, Bool.not_false, w_mLst, w_mMake, w_miLst, w_gmUnl, w_mComp, w_mComp2, compL_nil, w_compL, w_mSetF, w_addRR]
        exact ⟨hl, h⟩
      · rw [List.nil_append, map_some]
        intro j4 S4 e6 e7
        replace w := w.new e6 e7
        refine all_w (bs := (fs.zip (fs.drop 1)).map fun p => decide (p.1 < p.2)) w (by rw [List.map_map]; exact List.mem_cons_self) ?_
        rw [zip_asc]
        exact hq _ (w.sub fun _ _ m => .tail _ (.tail _ (.tail _ m)))
end
end Lw

namespace Lw
open PySem PySem.Spec PyProof.Rows L2

/-! ### lists of ints compared -/
theorem trL_ints {S : Sto} {k : Nat} : ∀ ns : List Int, treeL (tree (k + 1) S) (ns.map D.int) = some (ns.map PyData.int)
  | [] => rfl
  | i :: ns => by
    rw [List.map_cons, trL_cons, trL_ints ns, tr_int]
    rfl
theorem lay_ints : ∀ ns : List Int, PyData.canLayAll0 (ns.map PyData.int) = true
  | [] => by simp [PyData.canLayAll0]
  | i :: ns => by simp [PyData.canLayAll0, PyData.canLay0, lay_ints ns]
theorem dep_ints : ∀ ns : List Int, PyData.depthAll (ns.map PyData.int) ≤ 1
  | [] => by simp [PyData.depthAll]
  | i :: ns => by
    have := dep_ints ns
    simp [PyData.depthAll, PyData.depth]
    omega
theorem sh_ints {ns : List Int} : SeqAt.shaped (.list (ns.map PyData.int)) = true := by
  have := dep_ints ns
  simp [SeqAt.shaped, PyData.canLay0, lay_ints, PyData.depth]
  omega
theorem sh_intsT {ns : List Int} : SeqAt.shaped (.tuple (ns.map PyData.int)) = true := by
  have := dep_ints ns
  simp [SeqAt.shaped, PyData.canLay0, lay_ints, PyData.depth]
  omega
theorem eqv_ints : ∀ a b : List Int, PyData.eqvAll (a.map PyData.int) (b.map PyData.int) = decide (a = b)
  | [], [] => by simp [PyData.eqvAll]
  | [], b :: bs => by simp [PyData.eqvAll]
  | a :: as, [] => by simp [PyData.eqvAll]
  | a :: as, b :: bs => by
    simp only [List.map_cons, PyData.eqvAll, PyData.eqv, eqv_ints as bs, List.cons.injEq]
    by_cases h : a = b <;> by_cases h2 : as = bs <;> simp [h, h2]
theorem mEq_tupI {S : Sto} {q : QD} {a b : List Int} : mEq (.tup (a.map D.int)) (.tup (b.map D.int)) S q = q (.bl (decide (a = b))) S := by
  have e : ∀ ns : List Int, tree 9 S (.tup (ns.map D.int)) = some (.tuple (ns.map PyData.int)) := fun ns => by
    rw [tr_tup, trL_ints]; rfl
  unfold mEq
  simp only [e, sh_intsT, PyData.eqv, eqv_ints, true_and, and_self]
theorem in_tupI {S : Sto} {q : QD} {v : Int} {a : List Int} : mIn (.int v) (.tup (a.map D.int)) S q = q (.bl (decide (v ∈ a))) S := by
  have e : ∀ ns : List Int, tree 9 S (.tup (ns.map D.int)) = some (.tuple (ns.map PyData.int)) := fun ns => by
    rw [tr_tup, trL_ints]; rfl
  have e2 : ((a.map PyData.int).any fun z => PyData.eqv z (.int v)) = decide (v ∈ a) := by
    rw [List.any_map]
    induction a with
    | nil => rfl
    | cons b as ih =>
      rw [List.any_cons, ih]
      simp only [Function.comp_def, PyData.eqv, List.mem_cons]
      by_cases h : v = b
      · subst h; simp
      · rw [beq_false_of_ne (Ne.symm h)]
        simp [h]
  unfold mIn
  simp only [e, tr_int, sh_intsT, sh_int, e2, true_and, and_self]
/-! ### the least period -/
def rep (fs : List Int) (p : Int) (k : Nat) : List Int := (List.range k).flatMap fun a : Nat => (fs.take (fs.length / k)).map fun m => m + (a : Int) * (p / k)
structure Rep (fs : List Int) (p : Int) (k : Nat) : Prop where
  k0 : 0 < k
  kl : fs.length % k = 0
  kp : p % k = 0
  eq : fs = rep fs p k
theorem rep1 {fs : List Int} {p : Int} : Rep fs p 1 := ⟨by decide, Nat.mod_one _, by simp [Int.emod_one], by simp [rep]⟩
theorem rep_len {fs : List Int} {p : Int} {k : Nat} (hk : 0 < k) : (rep fs p k).length = k * (fs.length / k) := by
  have : fs.length / k ≤ fs.length := Nat.div_le_self _ _
  unfold rep
  simp [List.length_flatMap, Nat.min_eq_left this, List.map_const', List.sum_replicate_nat]
section
variable {n : Nat} {B : Sto} {L L' : List (Nat × O)} {S S0 S' : Sto} {j j2 i : Nat} {o : O} {ds xs : List D} {d : D} {q : QD} {x : QX} {t p per : Int} {K : QD} {md : MEnds} {fs gs : List Int}
theorem rangeC_down : ∀ k : Nat, rangeC (k : Int) (-1) k = match k with | 0 => [] | k + 1 => .int ((k + 1 : Nat) : Int) :: rangeC (k : Int) (-1) k
  | 0 => rfl
  | k + 1 => by
    show D.int ((k + 1 : Nat) : Int) :: rangeC (((k + 1 : Nat) : Int) + -1) (-1) k = _
    have e : ((k + 1 : Nat) : Int) + -1 = (k : Int) := by push_cast; omega
    rw [e]
theorem least_w (w : W n B L S) (hp : 0 < p) (hn : fs ≠ []) (hl : fs.length ≤ 2000) (hq : ∀ k S', k ≤ fs.length → Rep fs p k → (∀ k', k < k' → k' ≤ fs.length → ¬ Rep fs p k') → W n B L S' → q (.int (p / k)) S') : u_least_period [.tup (fs.map D.int), .int p] S q x := by
  rw [e_u_least_period, e_b_least_period]
  simp only [e_mNext, e_mSeq, e_mExpr, e_mRet, e_mRetN, e_mIfS, e_mBreak, e_mCont, e_mAsg, e_mPar, e_gmName, e_gmNil, e_gmCons, e_gmTup, e_gmSub, e_mVar, e_mC, e_mOp, e_mtB, e_mtT, e_mtNot, e_mtAnd, e_mtOr, e_mAnd, e_mOr, e_mAndT, e_mOrT, e_mIf, e_mNotB, e_mChain, e_maNil, e_maCons, e_mTup, e_mCall, e_mFld, e_mProp, e_mMeth, e_mUnO, e_mBinO, e_mCallO, e_mCMeth, e_mRaise, e_mTry, e_mFn, e_mNeg, e_mIsiB, e_mIsiO, e_mFor, e_miRange1, e_miRange2, e_miRangeW, e_miZip, e_zpT, e_mIsi2, e_miAny, e_seqT, e_powW, e_mAug, e_addI, e_fTupleT, e_mSl00, e_mSl01, e_mSl10, e_mSl11, e_miTup, e_body, e_addII, e_addIB, e_addSS, e_addTT, e_subII, e_mulII, e_fdivII, e_modII, e_powII, e_ltII, e_leII, e_gtII, e_geII, e_is, e_isNot, e_ixT, e_ixS, e_ixD, e_inD, e_fLenS, e_fLenT, e_fMax2, e_fMin2, e_fAbs, e_fIntI, e_fIntB, e_fBoolI, e_fBoolB, e_mExcF, e_tryNil, e_tryCons, e_mBM, e_mEqO, e_mNeO, e_fLenO, e_fBoolO, e_mtTO, e_mInO, e_mNotInO, e_mGetO, e_mSortedSet, e_mLstRg1, e_mDic1, e_mDic0, e_miRange3, e_mtYes, putD, List.getElem?_cons_zero, List.getElem?_cons_succ, List.set_cons_zero, List.set_cons_succ, List.map_cons, List.map_nil, List.length_cons, List.length_nil, List.cons_append, List.nil_append, List.append_nil, List.replicate, Nat.reduceAdd, Nat.reduceSub, Nat.reduceLeDiff, Nat.zero_add, true_and, and_true, reduceIte, Bool.false_eq_true, Bool.true_eq_false, Bool.not_true, Bool.not_false, w_mLst, w_mMake, w_miLst, w_gmUnl, w_mComp, w_mComp2, compL_nil, w_compL, w_mSetF, w_addRR, List.length_map]
  have hl0 : 0 < fs.length := List.length_pos_iff.mpr hn
  refine ⟨_, RgC.neg (by omega) (by omega) (by omega) (by omega), ?_⟩
  rw [show ((fs.length : Int) - 0).toNat = fs.length from by omega]
  rw [e_b_least_period_4, e_b_least_period_3, e_b_least_period_2, e_b_least_period_1]
  refine forL_ind (fun items sd S' => ∃ (k : Nat) (c2 c3 c4 : Option D), k ≤ fs.length ∧ items = rangeC (k : Int) (-1) k ∧ sd = [some (.tup (fs.map D.int)), some (.int p), c2, c3, c4, none, none] ∧ (∀ k', k < k' → k' ≤ fs.length → ¬ Rep fs p k') ∧ W n B L S') ?_ ?_ _ _ _ ⟨fs.length, none, none, none, Nat.le_refl _, rfl, rfl, fun k' h1 h2 => by omega, w⟩
  · rintro sd S' ⟨k, c2, c3, c4, hk, hi, rfl, hno, w⟩
    cases k with
    | zero => exact absurd rep1 (hno 1 (by omega) hl0)
    | succ k => rw [rangeC_down] at hi; cases hi
  · rintro d is sd S' ⟨k, c2, c3, c4, hk, hi, rfl, hno, w⟩ ih
    cases k with
    | zero => cases hi
    | succ k =>
      rw [rangeC_down] at hi
      obtain ⟨rfl, rfl⟩ := List.cons.inj hi
      refine ⟨trivial, ?_⟩
      try simp only [e_mNext, e_mSeq, e_mExpr, e_mRet, e_mRetN, e_mIfS, e_mBreak, e_mCont, e_mAsg, e_mPar, e_gmName, e_gmNil, e_gmCons, e_gmTup, e_gmSub, e_mVar, e_mC, e_mOp, e_mtB, e_mtT, e_mtNot, e_mtAnd, e_mtOr, e_mAnd, e_mOr, e_mAndT, e_mOrT, e_mIf, e_mNotB, e_mChain, e_maNil, e_maCons, e_mTup, e_mCall, e_mFld, e_mProp, e_mMeth, e_mUnO, e_mBinO, e_mCallO, e_mCMeth, e_mRaise, e_mTry, e_mFn, e_mNeg, e_mIsiB, e_mIsiO, e_mFor, e_miRange1, e_miRange2, e_miRangeW, e_miZip, e_zpT, e_mIsi2, e_miAny, e_seqT, e_powW, e_mAug, e_addI, e_fTupleT, e_mSl00, e_mSl01, e_mSl10, e_mSl11, e_miTup, e_body, e_addII, e_addIB, e_addSS, e_addTT, e_subII, e_mulII, e_fdivII, e_modII, e_powII, e_ltII, e_leII, e_gtII, e_geII, e_is, e_isNot, e_ixT, e_ixS, e_ixD, e_inD, e_fLenS, e_fLenT, e_fMax2, e_fMin2, e_fAbs, e_fIntI, e_fIntB, e_fBoolI, e_fBoolB, e_mExcF, e_tryNil, e_tryCons, e_mBM, e_mEqO, e_mNeO, e_fLenO, e_fBoolO, e_mtTO, e_mInO, e_mNotInO, e_mGetO, e_mSortedSet, e_mLstRg1, e_mDic1, e_mDic0, e_miRange3, e_mtYes, putD, List.getElem?_cons_zero, List.getElem?_cons_succ, List.set_cons_zero, List.set_cons_succ, List.map_cons, List.map_nil, List.length_cons, List.length_nil, List.cons_append, List.nil_append, List.append_nil, List.replicate, Nat.reduceAdd, Nat.reduceSub, Nat.reduceLeDiff, Nat.zero_add, true_and, and_true, reduceIte, Bool.false_eq_true, Bool.true_eq_false, Bool.not_true, Bool.not_false, w_mLst, w_mMake, w_miLst, w_gmUnl, w_mComp, w_mComp2, compL_nil, w_compL, w_mSetF, w_addRR, List.length_map, mEq_int']
      generalize hK : k + 1 = K at *
      have K0 : 0 < (K : Int) := by omega
      have lg : ((K : Int)).natAbs.log2 < 9000 := by
        rw [Int.natAbs_natCast]
        exact Nat.lt_of_le_of_lt (Nat.log2_le_self K) (by omega)
      have next : ∀ (c3 c4 : Option D) S2, W n B L S2 → ¬ Rep fs p K → ∃ (k' : Nat) (c2 c3' c4' : Option D), k' ≤ fs.length ∧ rangeC (k : Int) (-1) k = rangeC (k' : Int) (-1) k' ∧ [some (D.tup (fs.map D.int)), some (.int p), some (.int (K : Int)), c3, c4, none, none] = [some (.tup (fs.map D.int)), some (.int p), c2, c3', c4', none, none] ∧ (∀ k2, k' < k2 → k2 ≤ fs.length → ¬ Rep fs p k2) ∧ W n B L S2 := fun c3 c4 S2 w nr =>
        ⟨k, _, c3, c4, by omega, rfl, rfl, fun k2 h1 h2 r => by
          by_cases e : k2 = K
          · subst e; exact nr r
          · exact hno k2 (by omega) h2 r, w⟩
      refine ⟨K0, ?_⟩
      by_cases e1 : fs.length % K = 0
      · rw [if_pos (by rw [← Int.natCast_emod, e1]; rfl)]
        refine ⟨K0, ?_⟩
        by_cases e2 : p % (K : Int) = 0
        · rw [if_pos (by rw [e2]; rfl)]
          refine ⟨⟨K0, lg⟩, ⟨K0, lg⟩, ?_⟩
          rw [← Int.natCast_ediv, slT_w, cutTo]
          refine ⟨⟨by omega, by omega⟩, ?_⟩
          simp only [wipeD, List.set_cons_succ, List.set_cons_zero]
          rw [Int.toNat_natCast, rangeD_map, List.map_map]
          refine comp2A _ (fun a : Nat => ((fs.take (fs.length / K)).map fun m => m + (a : Int) * (p / K)).map D.int) trivial (List.range K) [] ?_ (fun a ma acc C hl h => ?_) ?_
          · have := rep_len (fs := fs) (p := p) (k := K) (by omega)
            have l2 : K * (fs.length / K) ≤ fs.length := Nat.mul_div_le _ _
            unfold rep at this
            rw [← List.map_flatMap, List.length_map, this]
            simp only [List.length_nil]
            omega
          · simp only [e_mNext, e_mSeq, e_mExpr, e_mRet, e_mRetN, e_mIfS, e_mBreak, e_mCont, e_mAsg, e_mPar, e_gmName, e_gmNil, e_gmCons, e_gmTup, e_gmSub, e_mVar, e_mC, e_mOp, e_mtB, e_mtT, e_mtNot, e_mtAnd, e_mtOr, e_mAnd, e_mOr, e_mAndT, e_mOrT, e_mIf, e_mNotB, e_mChain, e_maNil, e_maCons, e_mTup, e_mCall, e_mFld, e_mProp, e_mMeth, e_mUnO, e_mBinO, e_mCallO, e_mCMeth, e_mRaise, e_mTry, e_mFn, e_mNeg, e_mIsiB, e_mIsiO, e_mFor, e_miRange1, e_miRange2, e_miRangeW, e_miZip, e_zpT, e_mIsi2, e_miAny, e_seqT, e_powW, e_mAug, e_addI, e_fTupleT, e_mSl00, e_mSl01, e_mSl10, e_mSl11, e_miTup, e_body, e_addII, e_addIB, e_addSS, e_addTT, e_subII, e_mulII, e_fdivII, e_modII, e_powII, e_ltII, e_leII, e_gtII, e_geII, e_is, e_isNot, e_ixT, e_ixS, e_ixD, e_inD, e_fLenS, e_fLenT, e_fMax2, e_fMin2, e_fAbs, e_fIntI, e_fIntB, e_fBoolI, e_fBoolB, e_mExcF, e_tryNil, e_tryCons, e_mBM, e_mEqO, e_mNeO, e_fLenO, e_fBoolO, e_mtTO, e_mInO, e_mNotInO, e_mGetO, e_mSortedSet, e_mLstRg1, e_mDic1, e_mDic0, e_miRange3, e_mtYes, putD, List.getElem?_cons_zero, List.getElem?_cons_succ, List.set_cons_zero, List.set_cons_succ, List.map_cons, List.map_nil, List.length_cons, List.length_nil, List.cons_append, List.nil_append, List.append_nil, List.replicate, Nat.reduceAdd, Nat.reduceSub, Nat.reduceLeDiff, Nat.zero_add, true_and, and_true, reduceIte, Bool.false_eq_true, Bool.true_eq_false, Bool.not_true, Bool.not_false, w_mLst, w_mMake, w_miLst, w_gmUnl, w_mComp, w_mComp2, compL_nil, w_compL, w_mSetF, w_addRR, Function.comp_def]
            rw [← List.map_take]
            simp only [e_mNext, e_mSeq, e_mExpr, e_mRet, e_mRetN, e_mIfS, e_mBreak, e_mCont, e_mAsg, e_mPar, e_gmName, e_gmNil, e_gmCons, e_gmTup, e_gmSub, e_mVar, e_mC, e_mOp, e_mtB, e_mtT, e_mtNot, e_mtAnd, e_mtOr, e_mAnd, e_mOr, e_mAndT, e_mOrT, e_mIf, e_mNotB, e_mChain, e_maNil, e_maCons, e_mTup, e_mCall, e_mFld, e_mProp, e_mMeth, e_mUnO, e_mBinO, e_mCallO, e_mCMeth, e_mRaise, e_mTry, e_mFn, e_mNeg, e_mIsiB, e_mIsiO, e_mFor, e_miRange1, e_miRange2, e_miRangeW, e_miZip, e_zpT, e_mIsi2, e_miAny, e_seqT, e_powW, e_mAug, e_addI, e_fTupleT, e_mSl00, e_mSl01, e_mSl10, e_mSl11, e_miTup, e_body, e_addII, e_addIB, e_addSS, e_addTT, e_subII, e_mulII, e_fdivII, e_modII, e_powII, e_ltII, e_leII, e_gtII, e_geII, e_is, e_isNot, e_ixT, e_ixS, e_ixD, e_inD, e_fLenS, e_fLenT, e_fMax2, e_fMin2, e_fAbs, e_fIntI, e_fIntB, e_fBoolI, e_fBoolB, e_mExcF, e_tryNil, e_tryCons, e_mBM, e_mEqO, e_mNeO, e_fLenO, e_fBoolO, e_mtTO, e_mInO, e_mNotInO, e_mGetO, e_mSortedSet, e_mLstRg1, e_mDic1, e_mDic0, e_miRange3, e_mtYes, putD, List.getElem?_cons_zero, List.getElem?_cons_succ, List.set_cons_zero, List.set_cons_succ, List.map_cons, List.map_nil, List.length_cons, List.length_nil, List.cons_append, List.nil_append, List.append_nil, List.replicate, Nat.reduceAdd, Nat.reduceSub, Nat.reduceLeDiff, Nat.zero_add, true_and, and_true, reduceIte, Bool.false_eq_true, Bool.true_eq_false, Bool.not_true, Bool.not_false, w_mLst, w_mMake, w_miLst, w_gmUnl, w_mComp, w_mComp2, compL_nil, w_compL, w_mSetF, w_addRR, wipeD]
            refine compA D.int (fun m => some (D.int (m + (a : Int) * (p / K)))) trivial _ acc ?_ (fun m _ acc C hl h => ?_) ?_
            · simp only [List.length_map] at hl
              exact hl
            · simp only [e_mNext, e_mSeq, e_mExpr, e_mRet, e_mRetN, e_mIfS, e_mBreak, e_mCont, e_mAsg, e_mPar, e_gmName, e_gmNil, e_gmCons, e_gmTup, e_gmSub, e_mVar, e_mC, e_mOp, e_mtB, e_mtT, e_mtNot, e_mtAnd, e_mtOr, e_mAnd, e_mOr, e_mAndT, e_mOrT, e_mIf, e_mNotB, e_mChain, e_maNil, e_maCons, e_mTup, e_mCall, e_mFld, e_mProp, e_mMeth, e_mUnO, e_mBinO, e_mCallO, e_mCMeth, e_mRaise, e_mTry, e_mFn, e_mNeg, e_mIsiB, e_mIsiO, e_mFor, e_miRange1, e_miRange2, e_miRangeW, e_miZip, e_zpT, e_mIsi2, e_miAny, e_seqT, e_powW, e_mAug, e_addI, e_fTupleT, e_mSl00, e_mSl01, e_mSl10, e_mSl11, e_miTup, e_body, e_addII, e_addIB, e_addSS, e_addTT, e_subII, e_mulII, e_fdivII, e_modII, e_powII, e_ltII, e_leII, e_gtII, e_geII, e_is, e_isNot, e_ixT, e_ixS, e_ixD, e_inD, e_fLenS, e_fLenT, e_fMax2, e_fMin2, e_fAbs, e_fIntI, e_fIntB, e_fBoolI, e_fBoolB, e_mExcF, e_tryNil, e_tryCons, e_mBM, e_mEqO, e_mNeO, e_fLenO, e_fBoolO, e_mtTO, e_mInO, e_mNotInO, e_mGetO, e_mSortedSet, e_mLstRg1, e_mDic1, e_mDic0, e_miRange3, e_mtYes, putD, List.getElem?_cons_zero, List.getElem?_cons_succ, List.set_cons_zero, List.set_cons_succ, List.map_cons, List.map_nil, List.length_cons, List.length_nil, List.cons_append, List.nil_append, List.append_nil, List.replicate, Nat.reduceAdd, Nat.reduceSub, Nat.reduceLeDiff, Nat.zero_add, true_and, and_true, reduceIte, Bool.false_eq_true, Bool.true_eq_false, Bool.not_true, Bool.not_false, w_mLst, w_mMake, w_miLst, w_gmUnl, w_mComp, w_mComp2, compL_nil, w_compL, w_mSetF, w_addRR]
              refine ⟨cmul_l (by omega) (by have := List.mem_range.mp ma; omega), hl, ?_⟩
              simpa using h
            · rw [map_some, List.map_map] at *
              exact h
          · rw [List.nil_append, ← List.map_flatMap]
            intro j2 S2 e3 e4
            have w0 := w
            replace w := w.new e3 e4
            refine tuple_w w (List.mem_cons_self ..) ?_
            have w1 : W n B L S2 := w.sub fun _ _ m => .tail _ m
            rw [mEq_tupI]
            by_cases e5 : fs = rep fs p K
            · simp only [show decide (fs = List.flatMap (fun a : Nat => (fs.take (fs.length / K)).map fun m => m + (a : Int) * (p / K)) (List.range K)) = true from decide_eq_true e5, e_mNext, e_mSeq, e_mExpr, e_mRet, e_mRetN, e_mIfS, e_mBreak, e_mCont, e_mAsg, e_mPar, e_gmName, e_gmNil, e_gmCons, e_gmTup, e_gmSub, e_mVar, e_mC, e_mOp, e_mtB, e_mtT, e_mtNot, e_mtAnd, e_mtOr, e_mAnd, e_mOr, e_mAndT, e_mOrT, e_mIf, e_mNotB, e_mChain, e_maNil, e_maCons, e_mTup, e_mCall, e_mFld, e_mProp, e_mMeth, e_mUnO, e_mBinO, e_mCallO, e_mCMeth, e_mRaise, e_mTry, e_mFn, e_mNeg, e_mIsiB, e_mIsiO, e_mFor, e_miRange1, e_miRange2, e_miRangeW, e_miZip, e_zpT, e_mIsi2, e_miAny, e_seqT, e_powW, e_mAug, e_addI, e_fTupleT, e_mSl00, e_mSl01, e_mSl10, e_mSl11, e_miTup, e_body, e_addII, e_addIB, e_addSS, e_addTT, e_subII, e_mulII, e_fdivII, e_modII, e_powII, e_ltII, e_leII, e_gtII, e_geII, e_is, e_isNot, e_ixT, e_ixS, e_ixD, e_inD, e_fLenS, e_fLenT, e_fMax2, e_fMin2, e_fAbs, e_fIntI, e_fIntB, e_fBoolI, e_fBoolB, e_mExcF, e_tryNil, e_tryCons, e_mBM, e_mEqO, e_mNeO, e_fLenO, e_fBoolO, e_mtTO, e_mInO, e_mNotInO, e_mGetO, e_mSortedSet, e_mLstRg1, e_mDic1, e_mDic0, e_miRange3, e_mtYes, putD, List.getElem?_cons_zero, List.getElem?_cons_succ, List.set_cons_zero, List.set_cons_succ, List.map_cons, List.map_nil, List.length_cons, List.length_nil, List.cons_append, List.nil_append, List.append_nil, List.replicate, Nat.reduceAdd, Nat.reduceSub, Nat.reduceLeDiff, Nat.zero_add, true_and, and_true, reduceIte, Bool.false_eq_true, Bool.true_eq_false, Bool.not_true, Bool.not_false, w_mLst, w_mMake, w_miLst, w_gmUnl, w_mComp, w_mComp2, compL_nil, w_compL, w_mSetF, w_addRR]
              exact hq K _ hk ⟨by omega, e1, e2, e5⟩ hno w1
            · simp only [show decide (fs = List.flatMap (fun a : Nat => (fs.take (fs.length / K)).map fun m => m + (a : Int) * (p / K)) (List.range K)) = false from decide_eq_false e5, e_mNext, e_mSeq, e_mExpr, e_mRet, e_mRetN, e_mIfS, e_mBreak, e_mCont, e_mAsg, e_mPar, e_gmName, e_gmNil, e_gmCons, e_gmTup, e_gmSub, e_mVar, e_mC, e_mOp, e_mtB, e_mtT, e_mtNot, e_mtAnd, e_mtOr, e_mAnd, e_mOr, e_mAndT, e_mOrT, e_mIf, e_mNotB, e_mChain, e_maNil, e_maCons, e_mTup, e_mCall, e_mFld, e_mProp, e_mMeth, e_mUnO, e_mBinO, e_mCallO, e_mCMeth, e_mRaise, e_mTry, e_mFn, e_mNeg, e_mIsiB, e_mIsiO, e_mFor, e_miRange1, e_miRange2, e_miRangeW, e_miZip, e_zpT, e_mIsi2, e_miAny, e_seqT, e_powW, e_mAug, e_addI, e_fTupleT, e_mSl00, e_mSl01, e_mSl10, e_mSl11, e_miTup, e_body, e_addII, e_addIB, e_addSS, e_addTT, e_subII, e_mulII, e_fdivII, e_modII, e_powII, e_ltII, e_leII, e_gtII, e_geII, e_is, e_isNot, e_ixT, e_ixS, e_ixD, e_inD, e_fLenS, e_fLenT, e_fMax2, e_fMin2, e_fAbs, e_fIntI, e_fIntB, e_fBoolI, e_fBoolB, e_mExcF, e_tryNil, e_tryCons, e_mBM, e_mEqO, e_mNeO, e_fLenO, e_fBoolO, e_mtTO, e_mInO, e_mNotInO, e_mGetO, e_mSortedSet, e_mLstRg1, e_mDic1, e_mDic0, e_miRange3, e_mtYes, putD, List.getElem?_cons_zero, List.getElem?_cons_succ, List.set_cons_zero, List.set_cons_succ, List.map_cons, List.map_nil, List.length_cons, List.length_nil, List.cons_append, List.nil_append, List.append_nil, List.replicate, Nat.reduceAdd, Nat.reduceSub, Nat.reduceLeDiff, Nat.zero_add, true_and, and_true, reduceIte, Bool.false_eq_true, Bool.true_eq_false, Bool.not_true, Bool.not_false, w_mLst, w_mMake, w_miLst, w_gmUnl, w_mComp, w_mComp2, compL_nil, w_compL, w_mSetF, w_addRR]
              exact ih _ _ (next _ _ _ w1 fun r => e5 r.eq)
        · rw [if_neg (by simpa using e2)]
          exact ih _ _ (next _ _ _ w fun r => e2 r.kp)
      · rw [if_neg (by rw [← Int.natCast_emod]; simp; omega)]
        exact ih _ _ (next _ _ _ w fun r => e1 r.kl)
end
end Lw

namespace Lw
open PySem PySem.Spec PyProof.Rows L2

/-! ### Moments made -/
abbrev momF (gs : List Int) (q : Int) : List (Str × D) := [("own_firsts", .tup (gs.map D.int)), ("own_period", .int q)]
abbrev mom (gs : List Int) (q : Int) : O := .ins "Moments" (momF gs q)
theorem fl_firsts {gs : List Int} {q : Int} : (momF gs q).lookup ("own_firsts" : Str) = some (.tup (gs.map D.int)) := by simp [momF, List.lookup]
theorem fl_period {gs : List Int} {q : Int} : (momF gs q).lookup ("own_period" : Str) = some (.int q) := by
  have h : (("own_period" : Str) == "own_firsts") = false := by decide
  simp [momF, List.lookup, h]
theorem put1 {v : D} : putD "own_firsts" v [] = ([("own_firsts", v)] : List (Str × D)) := rfl
theorem put2 {v u : D} : putD "own_period" v ([("own_firsts", u)] : List (Str × D)) = ([("own_firsts", u), ("own_period", v)] : List (Str × D)) := by
  have h : ¬ (("own_firsts" : Str) = "own_period") := by decide
  simp [putD, h]
theorem put3 {v u t : D} : putD "own_period" v ([("own_firsts", u), ("own_period", t)] : List (Str × D)) = ([("own_firsts", u), ("own_period", v)] : List (Str × D)) := by
  have h : ¬ (("own_firsts" : Str) = "own_period") := by decide
  simp [putD, h]
theorem put4 {v u t : D} : putD "own_firsts" v ([("own_firsts", u), ("own_period", t)] : List (Str × D)) = ([("own_firsts", v), ("own_period", t)] : List (Str × D)) := by
  simp [putD]
/-- what Moments(fs, p) stores -/
def Mk (fs : List Int) (p : Int) (gs : List Int) (q : Int) : Prop :=
  (fs = [] ∧ gs = [] ∧ q = 0) ∨ (fs ≠ [] ∧ p = 0 ∧ gs = fs ∧ q = 0) ∨
  (fs ≠ [] ∧ 0 < p ∧ ∃ k : Nat, k ≤ fs.length ∧ Rep fs p k ∧ (∀ k', k < k' → k' ≤ fs.length → ¬ Rep fs p k') ∧ q = p / k ∧ gs = fs.filter fun f => decide (f < p / k))
theorem filt_map {α : Type} (f : α → D) (p : α → Bool) : ∀ l : List α, l.filterMap (fun a => if p a = true then some (f a) else none) = (l.filter p).map f
  | [] => rfl
  | a :: l => by
    rw [List.filterMap_cons, List.filter_cons, filt_map f p l]
    cases p a <;> rfl
section
variable {n : Nat} {B : Sto} {L L' : List (Nat × O)} {S S0 S' : Sto} {j j2 i : Nat} {o : O} {ds xs : List D} {d : D} {q : QD} {x : QX} {t p per : Int} {K : QD} {md : MEnds} {fs gs : List Int} {c3 : Option D}
theorem init4_w (w : W n S ((S.length, .ins "Moments" []) :: L) S') (hL : ∀ i u, (i, u) ∈ L → i ≠ S.length) (m : (i, .lst (fs.map D.int)) ∈ L) (hl : fs.length ≤ 2000) (hp : 0 ≤ p)
    (hq : ∀ S' gs q' c3, Mk fs p gs q' → W n S ((S.length, mom gs q') :: L) S' → md.nx [some (.ref S.length), some (.ref i), some (.int p), c3] S') :
    b_Moments_init_4 md [some (.ref S.length), some (.ref i), some (.int p), c3] S' := by
  rw [e_b_Moments_init_4, e_b_Moments_init_3, e_b_Moments_init_2, e_b_Moments_init_1]
  have m' : ∀ {o : O}, (i, .lst (fs.map D.int)) ∈ (S.length, o) :: L := .tail _ m
  simp only [e_mNext, e_mSeq, e_mExpr, e_mRet, e_mRetN, e_mIfS, e_mBreak, e_mCont, e_mAsg, e_mPar, e_gmName, e_gmNil, e_gmCons, e_gmTup, e_gmSub, e_mVar, e_mC, e_mOp, e_mtB, e_mtT, e_mtNot, e_mtAnd, e_mtOr, e_mAnd, e_mOr, e_mAndT, e_mOrT, e_mIf, e_mNotB, e_mChain, e_maNil, e_maCons, e_mTup, e_mCall, e_mFld, e_mProp, e_mMeth, e_mUnO, e_mBinO, e_mCallO, e_mCMeth, e_mRaise, e_mTry, e_mFn, e_mNeg, e_mIsiB, e_mIsiO, e_mFor, e_miRange1, e_miRange2, e_miRangeW, e_miZip, e_zpT, e_mIsi2, e_miAny, e_seqT, e_powW, e_mAug, e_addI, e_fTupleT, e_mSl00, e_mSl01, e_mSl10, e_mSl11, e_miTup, e_body, e_addII, e_addIB, e_addSS, e_addTT, e_subII, e_mulII, e_fdivII, e_modII, e_powII, e_ltII, e_leII, e_gtII, e_geII, e_is, e_isNot, e_ixT, e_ixS, e_ixD, e_inD, e_fLenS, e_fLenT, e_fMax2, e_fMin2, e_fAbs, e_fIntI, e_fIntB, e_fBoolI, e_fBoolB, e_mExcF, e_tryNil, e_tryCons, e_mBM, e_mEqO, e_mNeO, e_fLenO, e_fBoolO, e_mtTO, e_mInO, e_mNotInO, e_mGetO, e_mSortedSet, e_mLstRg1, e_mDic1, e_mDic0, e_miRange3, e_mtYes, putD, List.getElem?_cons_zero, List.getElem?_cons_succ, List.set_cons_zero, List.set_cons_succ, List.map_cons, List.map_nil, List.length_cons, List.length_nil, List.cons_append, List.nil_append, List.append_nil, List.replicate, Nat.reduceAdd, Nat.reduceSub, Nat.reduceLeDiff, Nat.zero_add, true_and, and_true, reduceIte, Bool.false_eq_true, Bool.true_eq_false, Bool.not_true, Bool.not_false, w_mLst, w_mMake, w_miLst, w_gmUnl, w_mComp, w_mComp2, compL_nil, w_compL, w_mSetF, w_addRR]
  refine tuple_w w m' ?_
  refine set_ok w (Nat.le_refl _) hL (by simp) fun S1 w => ?_
  rw [put1] at w
  try simp only [e_mNext, e_mSeq, e_mExpr, e_mRet, e_mRetN, e_mIfS, e_mBreak, e_mCont, e_mAsg, e_mPar, e_gmName, e_gmNil, e_gmCons, e_gmTup, e_gmSub, e_mVar, e_mC, e_mOp, e_mtB, e_mtT, e_mtNot, e_mtAnd, e_mtOr, e_mAnd, e_mOr, e_mAndT, e_mOrT, e_mIf, e_mNotB, e_mChain, e_maNil, e_maCons, e_mTup, e_mCall, e_mFld, e_mProp, e_mMeth, e_mUnO, e_mBinO, e_mCallO, e_mCMeth, e_mRaise, e_mTry, e_mFn, e_mNeg, e_mIsiB, e_mIsiO, e_mFor, e_miRange1, e_miRange2, e_miRangeW, e_miZip, e_zpT, e_mIsi2, e_miAny, e_seqT, e_powW, e_mAug, e_addI, e_fTupleT, e_mSl00, e_mSl01, e_mSl10, e_mSl11, e_miTup, e_body, e_addII, e_addIB, e_addSS, e_addTT, e_subII, e_mulII, e_fdivII, e_modII, e_powII, e_ltII, e_leII, e_gtII, e_geII, e_is, e_isNot, e_ixT, e_ixS, e_ixD, e_inD, e_fLenS, e_fLenT, e_fMax2, e_fMin2, e_fAbs, e_fIntI, e_fIntB, e_fBoolI, e_fBoolB, e_mExcF, e_tryNil, e_tryCons, e_mBM, e_mEqO, e_mNeO, e_fLenO, e_fBoolO, e_mtTO, e_mInO, e_mNotInO, e_mGetO, e_mSortedSet, e_mLstRg1, e_mDic1, e_mDic0, e_miRange3, e_mtYes, putD, List.getElem?_cons_zero, List.getElem?_cons_succ, List.set_cons_zero, List.set_cons_succ, List.map_cons, List.map_nil, List.length_cons, List.length_nil, List.cons_append, List.nil_append, List.append_nil, List.replicate, Nat.reduceAdd, Nat.reduceSub, Nat.reduceLeDiff, Nat.zero_add, true_and, and_true, reduceIte, Bool.false_eq_true, Bool.true_eq_false, Bool.not_true, Bool.not_false, w_mLst, w_mMake, w_miLst, w_gmUnl, w_mComp, w_mComp2, compL_nil, w_compL, w_mSetF, w_addRR]
  refine len_ok w m' ?_
  try simp only [e_mNext, e_mSeq, e_mExpr, e_mRet, e_mRetN, e_mIfS, e_mBreak, e_mCont, e_mAsg, e_mPar, e_gmName, e_gmNil, e_gmCons, e_gmTup, e_gmSub, e_mVar, e_mC, e_mOp, e_mtB, e_mtT, e_mtNot, e_mtAnd, e_mtOr, e_mAnd, e_mOr, e_mAndT, e_mOrT, e_mIf, e_mNotB, e_mChain, e_maNil, e_maCons, e_mTup, e_mCall, e_mFld, e_mProp, e_mMeth, e_mUnO, e_mBinO, e_mCallO, e_mCMeth, e_mRaise, e_mTry, e_mFn, e_mNeg, e_mIsiB, e_mIsiO, e_mFor, e_miRange1, e_miRange2, e_miRangeW, e_miZip, e_zpT, e_mIsi2, e_miAny, e_seqT, e_powW, e_mAug, e_addI, e_fTupleT, e_mSl00, e_mSl01, e_mSl10, e_mSl11, e_miTup, e_body, e_addII, e_addIB, e_addSS, e_addTT, e_subII, e_mulII, e_fdivII, e_modII, e_powII, e_ltII, e_leII, e_gtII, e_geII, e_is, e_isNot, e_ixT, e_ixS, e_ixD, e_inD, e_fLenS, e_fLenT, e_fMax2, e_fMin2, e_fAbs, e_fIntI, e_fIntB, e_fBoolI, e_fBoolB, e_mExcF, e_tryNil, e_tryCons, e_mBM, e_mEqO, e_mNeO, e_fLenO, e_fBoolO, e_mtTO, e_mInO, e_mNotInO, e_mGetO, e_mSortedSet, e_mLstRg1, e_mDic1, e_mDic0, e_miRange3, e_mtYes, putD, List.getElem?_cons_zero, List.getElem?_cons_succ, List.set_cons_zero, List.set_cons_succ, List.map_cons, List.map_nil, List.length_cons, List.length_nil, List.cons_append, List.nil_append, List.append_nil, List.replicate, Nat.reduceAdd, Nat.reduceSub, Nat.reduceLeDiff, Nat.zero_add, true_and, and_true, reduceIte, Bool.false_eq_true, Bool.true_eq_false, Bool.not_true, Bool.not_false, w_mLst, w_mMake, w_miLst, w_gmUnl, w_mComp, w_mComp2, compL_nil, w_compL, w_mSetF, w_addRR, mEq_int', List.length_map]
  have fin : ∀ {S1 S2 : Sto} {v : Int} {qq : Sto → Prop}, W n S ((S.length, .ins "Moments" [("own_firsts", .tup (fs.map D.int))]) :: L) S1 → (∀ S2, W n S ((S.length, mom fs v) :: L) S2 → qq S2) → setD "Moments" "own_period" (.ref S.length) (.int v) S1 qq := fun {S1 S2 v qq} w h => by
    refine set_ok w (Nat.le_refl _) hL (by simp) fun S2 w => ?_
    rw [put2] at w
    exact h S2 w
  by_cases e : fs = []
  · rw [if_pos (by rw [e]; rfl)]
    refine fin (S2 := S1) w fun S2 w => ?_
    try simp only [e_mNext, e_mSeq, e_mExpr, e_mRet, e_mRetN, e_mIfS, e_mBreak, e_mCont, e_mAsg, e_mPar, e_gmName, e_gmNil, e_gmCons, e_gmTup, e_gmSub, e_mVar, e_mC, e_mOp, e_mtB, e_mtT, e_mtNot, e_mtAnd, e_mtOr, e_mAnd, e_mOr, e_mAndT, e_mOrT, e_mIf, e_mNotB, e_mChain, e_maNil, e_maCons, e_mTup, e_mCall, e_mFld, e_mProp, e_mMeth, e_mUnO, e_mBinO, e_mCallO, e_mCMeth, e_mRaise, e_mTry, e_mFn, e_mNeg, e_mIsiB, e_mIsiO, e_mFor, e_miRange1, e_miRange2, e_miRangeW, e_miZip, e_zpT, e_mIsi2, e_miAny, e_seqT, e_powW, e_mAug, e_addI, e_fTupleT, e_mSl00, e_mSl01, e_mSl10, e_mSl11, e_miTup, e_body, e_addII, e_addIB, e_addSS, e_addTT, e_subII, e_mulII, e_fdivII, e_modII, e_powII, e_ltII, e_leII, e_gtII, e_geII, e_is, e_isNot, e_ixT, e_ixS, e_ixD, e_inD, e_fLenS, e_fLenT, e_fMax2, e_fMin2, e_fAbs, e_fIntI, e_fIntB, e_fBoolI, e_fBoolB, e_mExcF, e_tryNil, e_tryCons, e_mBM, e_mEqO, e_mNeO, e_fLenO, e_fBoolO, e_mtTO, e_mInO, e_mNotInO, e_mGetO, e_mSortedSet, e_mLstRg1, e_mDic1, e_mDic0, e_miRange3, e_mtYes, putD, List.getElem?_cons_zero, List.getElem?_cons_succ, List.set_cons_zero, List.set_cons_succ, List.map_cons, List.map_nil, List.length_cons, List.length_nil, List.cons_append, List.nil_append, List.append_nil, List.replicate, Nat.reduceAdd, Nat.reduceSub, Nat.reduceLeDiff, Nat.zero_add, true_and, and_true, reduceIte, Bool.false_eq_true, Bool.true_eq_false, Bool.not_true, Bool.not_false, w_mLst, w_mMake, w_miLst, w_gmUnl, w_mComp, w_mComp2, compL_nil, w_compL, w_mSetF, w_addRR]
    refine ins_ok w (by repeat (first | exact List.Mem.head _ | apply List.Mem.tail)) ?_
    simp only [fl_period, e_mNext, e_mSeq, e_mExpr, e_mRet, e_mRetN, e_mIfS, e_mBreak, e_mCont, e_mAsg, e_mPar, e_gmName, e_gmNil, e_gmCons, e_gmTup, e_gmSub, e_mVar, e_mC, e_mOp, e_mtB, e_mtT, e_mtNot, e_mtAnd, e_mtOr, e_mAnd, e_mOr, e_mAndT, e_mOrT, e_mIf, e_mNotB, e_mChain, e_maNil, e_maCons, e_mTup, e_mCall, e_mFld, e_mProp, e_mMeth, e_mUnO, e_mBinO, e_mCallO, e_mCMeth, e_mRaise, e_mTry, e_mFn, e_mNeg, e_mIsiB, e_mIsiO, e_mFor, e_miRange1, e_miRange2, e_miRangeW, e_miZip, e_zpT, e_mIsi2, e_miAny, e_seqT, e_powW, e_mAug, e_addI, e_fTupleT, e_mSl00, e_mSl01, e_mSl10, e_mSl11, e_miTup, e_body, e_addII, e_addIB, e_addSS, e_addTT, e_subII, e_mulII, e_fdivII, e_modII, e_powII, e_ltII, e_leII, e_gtII, e_geII, e_is, e_isNot, e_ixT, e_ixS, e_ixD, e_inD, e_fLenS, e_fLenT, e_fMax2, e_fMin2, e_fAbs, e_fIntI, e_fIntB, e_fBoolI, e_fBoolB, e_mExcF, e_tryNil, e_tryCons, e_mBM, e_mEqO, e_mNeO, e_fLenO, e_fBoolO, e_mtTO, e_mInO, e_mNotInO, e_mGetO, e_mSortedSet, e_mLstRg1, e_mDic1, e_mDic0, e_miRange3, e_mtYes, putD, List.getElem?_cons_zero, List.getElem?_cons_succ, List.set_cons_zero, List.set_cons_succ, List.map_cons, List.map_nil, List.length_cons, List.length_nil, List.cons_append, List.nil_append, List.append_nil, List.replicate, Nat.reduceAdd, Nat.reduceSub, Nat.reduceLeDiff, Nat.zero_add, true_and, and_true, reduceIte, Bool.false_eq_true, Bool.true_eq_false, Bool.not_true, Bool.not_false, w_mLst, w_mMake, w_miLst, w_gmUnl, w_mComp, w_mComp2, compL_nil, w_compL, w_mSetF, w_addRR, show decide ((0 : Int) < 0) = false from rfl]
    rw [e] at w
    exact hq _ [] 0 _ (.inl ⟨e, rfl, rfl⟩) w
  · have lp : 0 < fs.length := List.length_pos_iff.mpr e
    rw [if_neg (by simp; omega)]
    refine fin (S2 := S1) w fun S2 w => ?_
    try simp only [e_mNext, e_mSeq, e_mExpr, e_mRet, e_mRetN, e_mIfS, e_mBreak, e_mCont, e_mAsg, e_mPar, e_gmName, e_gmNil, e_gmCons, e_gmTup, e_gmSub, e_mVar, e_mC, e_mOp, e_mtB, e_mtT, e_mtNot, e_mtAnd, e_mtOr, e_mAnd, e_mOr, e_mAndT, e_mOrT, e_mIf, e_mNotB, e_mChain, e_maNil, e_maCons, e_mTup, e_mCall, e_mFld, e_mProp, e_mMeth, e_mUnO, e_mBinO, e_mCallO, e_mCMeth, e_mRaise, e_mTry, e_mFn, e_mNeg, e_mIsiB, e_mIsiO, e_mFor, e_miRange1, e_miRange2, e_miRangeW, e_miZip, e_zpT, e_mIsi2, e_miAny, e_seqT, e_powW, e_mAug, e_addI, e_fTupleT, e_mSl00, e_mSl01, e_mSl10, e_mSl11, e_miTup, e_body, e_addII, e_addIB, e_addSS, e_addTT, e_subII, e_mulII, e_fdivII, e_modII, e_powII, e_ltII, e_leII, e_gtII, e_geII, e_is, e_isNot, e_ixT, e_ixS, e_ixD, e_inD, e_fLenS, e_fLenT, e_fMax2, e_fMin2, e_fAbs, e_fIntI, e_fIntB, e_fBoolI, e_fBoolB, e_mExcF, e_tryNil, e_tryCons, e_mBM, e_mEqO, e_mNeO, e_fLenO, e_fBoolO, e_mtTO, e_mInO, e_mNotInO, e_mGetO, e_mSortedSet, e_mLstRg1, e_mDic1, e_mDic0, e_miRange3, e_mtYes, putD, List.getElem?_cons_zero, List.getElem?_cons_succ, List.set_cons_zero, List.set_cons_succ, List.map_cons, List.map_nil, List.length_cons, List.length_nil, List.cons_append, List.nil_append, List.append_nil, List.replicate, Nat.reduceAdd, Nat.reduceSub, Nat.reduceLeDiff, Nat.zero_add, true_and, and_true, reduceIte, Bool.false_eq_true, Bool.true_eq_false, Bool.not_true, Bool.not_false, w_mLst, w_mMake, w_miLst, w_gmUnl, w_mComp, w_mComp2, compL_nil, w_compL, w_mSetF, w_addRR]
    refine ins_ok w (by repeat (first | exact List.Mem.head _ | apply List.Mem.tail)) ?_
    simp only [fl_period, e_mNext, e_mSeq, e_mExpr, e_mRet, e_mRetN, e_mIfS, e_mBreak, e_mCont, e_mAsg, e_mPar, e_gmName, e_gmNil, e_gmCons, e_gmTup, e_gmSub, e_mVar, e_mC, e_mOp, e_mtB, e_mtT, e_mtNot, e_mtAnd, e_mtOr, e_mAnd, e_mOr, e_mAndT, e_mOrT, e_mIf, e_mNotB, e_mChain, e_maNil, e_maCons, e_mTup, e_mCall, e_mFld, e_mProp, e_mMeth, e_mUnO, e_mBinO, e_mCallO, e_mCMeth, e_mRaise, e_mTry, e_mFn, e_mNeg, e_mIsiB, e_mIsiO, e_mFor, e_miRange1, e_miRange2, e_miRangeW, e_miZip, e_zpT, e_mIsi2, e_miAny, e_seqT, e_powW, e_mAug, e_addI, e_fTupleT, e_mSl00, e_mSl01, e_mSl10, e_mSl11, e_miTup, e_body, e_addII, e_addIB, e_addSS, e_addTT, e_subII, e_mulII, e_fdivII, e_modII, e_powII, e_ltII, e_leII, e_gtII, e_geII, e_is, e_isNot, e_ixT, e_ixS, e_ixD, e_inD, e_fLenS, e_fLenT, e_fMax2, e_fMin2, e_fAbs, e_fIntI, e_fIntB, e_fBoolI, e_fBoolB, e_mExcF, e_tryNil, e_tryCons, e_mBM, e_mEqO, e_mNeO, e_fLenO, e_fBoolO, e_mtTO, e_mInO, e_mNotInO, e_mGetO, e_mSortedSet, e_mLstRg1, e_mDic1, e_mDic0, e_miRange3, e_mtYes, putD, List.getElem?_cons_zero, List.getElem?_cons_succ, List.set_cons_zero, List.set_cons_succ, List.map_cons, List.map_nil, List.length_cons, List.length_nil, List.cons_append, List.nil_append, List.append_nil, List.replicate, Nat.reduceAdd, Nat.reduceSub, Nat.reduceLeDiff, Nat.zero_add, true_and, and_true, reduceIte, Bool.false_eq_true, Bool.true_eq_false, Bool.not_true, Bool.not_false, w_mLst, w_mMake, w_miLst, w_gmUnl, w_mComp, w_mComp2, compL_nil, w_compL, w_mSetF, w_addRR]
    by_cases hp0 : p = 0
    · rw [if_neg (by simp; omega)]
      rw [hp0] at w
      exact hq _ fs 0 _ (.inr (.inl ⟨e, hp0, rfl, rfl⟩)) w
    · have hp1 : 0 < p := by omega
      rw [if_pos (decide_eq_true hp1)]
      refine ins_ok w (by repeat (first | exact List.Mem.head _ | apply List.Mem.tail)) ?_
      simp only [fl_firsts, e_mNext, e_mSeq, e_mExpr, e_mRet, e_mRetN, e_mIfS, e_mBreak, e_mCont, e_mAsg, e_mPar, e_gmName, e_gmNil, e_gmCons, e_gmTup, e_gmSub, e_mVar, e_mC, e_mOp, e_mtB, e_mtT, e_mtNot, e_mtAnd, e_mtOr, e_mAnd, e_mOr, e_mAndT, e_mOrT, e_mIf, e_mNotB, e_mChain, e_maNil, e_maCons, e_mTup, e_mCall, e_mFld, e_mProp, e_mMeth, e_mUnO, e_mBinO, e_mCallO, e_mCMeth, e_mRaise, e_mTry, e_mFn, e_mNeg, e_mIsiB, e_mIsiO, e_mFor, e_miRange1, e_miRange2, e_miRangeW, e_miZip, e_zpT, e_mIsi2, e_miAny, e_seqT, e_powW, e_mAug, e_addI, e_fTupleT, e_mSl00, e_mSl01, e_mSl10, e_mSl11, e_miTup, e_body, e_addII, e_addIB, e_addSS, e_addTT, e_subII, e_mulII, e_fdivII, e_modII, e_powII, e_ltII, e_leII, e_gtII, e_geII, e_is, e_isNot, e_ixT, e_ixS, e_ixD, e_inD, e_fLenS, e_fLenT, e_fMax2, e_fMin2, e_fAbs, e_fIntI, e_fIntB, e_fBoolI, e_fBoolB, e_mExcF, e_tryNil, e_tryCons, e_mBM, e_mEqO, e_mNeO, e_fLenO, e_fBoolO, e_mtTO, e_mInO, e_mNotInO, e_mGetO, e_mSortedSet, e_mLstRg1, e_mDic1, e_mDic0, e_miRange3, e_mtYes, putD, List.getElem?_cons_zero, List.getElem?_cons_succ, List.set_cons_zero, List.set_cons_succ, List.map_cons, List.map_nil, List.length_cons, List.length_nil, List.cons_append, List.nil_append, List.append_nil, List.replicate, Nat.reduceAdd, Nat.reduceSub, Nat.reduceLeDiff, Nat.zero_add, true_and, and_true, reduceIte, Bool.false_eq_true, Bool.true_eq_false, Bool.not_true, Bool.not_false, w_mLst, w_mMake, w_miLst, w_gmUnl, w_mComp, w_mComp2, compL_nil, w_compL, w_mSetF, w_addRR]
      refine least_w w hp1 e hl fun k S3 hk hr hno w => ?_
      refine set_ok w (Nat.le_refl _) hL (by simp) fun S4 w => ?_
      rw [put3] at w
      try simp only [e_mNext, e_mSeq, e_mExpr, e_mRet, e_mRetN, e_mIfS, e_mBreak, e_mCont, e_mAsg, e_mPar, e_gmName, e_gmNil, e_gmCons, e_gmTup, e_gmSub, e_mVar, e_mC, e_mOp, e_mtB, e_mtT, e_mtNot, e_mtAnd, e_mtOr, e_mAnd, e_mOr, e_mAndT, e_mOrT, e_mIf, e_mNotB, e_mChain, e_maNil, e_maCons, e_mTup, e_mCall, e_mFld, e_mProp, e_mMeth, e_mUnO, e_mBinO, e_mCallO, e_mCMeth, e_mRaise, e_mTry, e_mFn, e_mNeg, e_mIsiB, e_mIsiO, e_mFor, e_miRange1, e_miRange2, e_miRangeW, e_miZip, e_zpT, e_mIsi2, e_miAny, e_seqT, e_powW, e_mAug, e_addI, e_fTupleT, e_mSl00, e_mSl01, e_mSl10, e_mSl11, e_miTup, e_body, e_addII, e_addIB, e_addSS, e_addTT, e_subII, e_mulII, e_fdivII, e_modII, e_powII, e_ltII, e_leII, e_gtII, e_geII, e_is, e_isNot, e_ixT, e_ixS, e_ixD, e_inD, e_fLenS, e_fLenT, e_fMax2, e_fMin2, e_fAbs, e_fIntI, e_fIntB, e_fBoolI, e_fBoolB, e_mExcF, e_tryNil, e_tryCons, e_mBM, e_mEqO, e_mNeO, e_fLenO, e_fBoolO, e_mtTO, e_mInO, e_mNotInO, e_mGetO, e_mSortedSet, e_mLstRg1, e_mDic1, e_mDic0, e_miRange3, e_mtYes, putD, List.getElem?_cons_zero, List.getElem?_cons_succ, List.set_cons_zero, List.set_cons_succ, List.map_cons, List.map_nil, List.length_cons, List.length_nil, List.cons_append, List.nil_append, List.append_nil, List.replicate, Nat.reduceAdd, Nat.reduceSub, Nat.reduceLeDiff, Nat.zero_add, true_and, and_true, reduceIte, Bool.false_eq_true, Bool.true_eq_false, Bool.not_true, Bool.not_false, w_mLst, w_mMake, w_miLst, w_gmUnl, w_mComp, w_mComp2, compL_nil, w_compL, w_mSetF, w_addRR, wipeD]
      first | refine wlk_ok w m' ?_ | refine seq_w' w m' ?_
      refine compA D.int (fun v => if decide (v < p / k) = true then some (D.int v) else none) (w.get m') fs [] (by simp; omega) (fun v _ acc C hl h => ?_) ?_
      · simp only [e_mNext, e_mSeq, e_mExpr, e_mRet, e_mRetN, e_mIfS, e_mBreak, e_mCont, e_mAsg, e_mPar, e_gmName, e_gmNil, e_gmCons, e_gmTup, e_gmSub, e_mVar, e_mC, e_mOp, e_mtB, e_mtT, e_mtNot, e_mtAnd, e_mtOr, e_mAnd, e_mOr, e_mAndT, e_mOrT, e_mIf, e_mNotB, e_mChain, e_maNil, e_maCons, e_mTup, e_mCall, e_mFld, e_mProp, e_mMeth, e_mUnO, e_mBinO, e_mCallO, e_mCMeth, e_mRaise, e_mTry, e_mFn, e_mNeg, e_mIsiB, e_mIsiO, e_mFor, e_miRange1, e_miRange2, e_miRangeW, e_miZip, e_zpT, e_mIsi2, e_miAny, e_seqT, e_powW, e_mAug, e_addI, e_fTupleT, e_mSl00, e_mSl01, e_mSl10, e_mSl11, e_miTup, e_body, e_addII, e_addIB, e_addSS, e_addTT, e_subII, e_mulII, e_fdivII, e_modII, e_powII, e_ltII, e_leII, e_gtII, e_geII, e_is, e_isNot, e_ixT, e_ixS, e_ixD, e_inD, e_fLenS, e_fLenT, e_fMax2, e_fMin2, e_fAbs, e_fIntI, e_fIntB, e_fBoolI, e_fBoolB, e_mExcF, e_tryNil, e_tryCons, e_mBM, e_mEqO, e_mNeO, e_fLenO, e_fBoolO, e_mtTO, e_mInO, e_mNotInO, e_mGetO, e_mSortedSet, e_mLstRg1, e_mDic1, e_mDic0, e_miRange3, e_mtYes, putD, List.getElem?_cons_zero, List.getElem?_cons_succ, List.set_cons_zero, List.set_cons_succ, List.map_cons, List.map_nil, List.length_cons, List.length_nil, List.cons_append, List.nil_append, List.append_nil, List.replicate, Nat.reduceAdd, Nat.reduceSub, Nat.reduceLeDiff, Nat.zero_add, true_and, and_true, reduceIte, Bool.false_eq_true, Bool.true_eq_false, Bool.not_true, Bool.not_false, w_mLst, w_mMake, w_miLst, w_gmUnl, w_mComp, w_mComp2, compL_nil, w_compL, w_mSetF, w_addRR]
        refine ins_ok w (by repeat (first | exact List.Mem.head _ | apply List.Mem.tail)) ?_
        simp only [fl_period, e_mNext, e_mSeq, e_mExpr, e_mRet, e_mRetN, e_mIfS, e_mBreak, e_mCont, e_mAsg, e_mPar, e_gmName, e_gmNil, e_gmCons, e_gmTup, e_gmSub, e_mVar, e_mC, e_mOp, e_mtB, e_mtT, e_mtNot, e_mtAnd, e_mtOr, e_mAnd, e_mOr, e_mAndT, e_mOrT, e_mIf, e_mNotB, e_mChain, e_maNil, e_maCons, e_mTup, e_mCall, e_mFld, e_mProp, e_mMeth, e_mUnO, e_mBinO, e_mCallO, e_mCMeth, e_mRaise, e_mTry, e_mFn, e_mNeg, e_mIsiB, e_mIsiO, e_mFor, e_miRange1, e_miRange2, e_miRangeW, e_miZip, e_zpT, e_mIsi2, e_miAny, e_seqT, e_powW, e_mAug, e_addI, e_fTupleT, e_mSl00, e_mSl01, e_mSl10, e_mSl11, e_miTup, e_body, e_addII, e_addIB, e_addSS, e_addTT, e_subII, e_mulII, e_fdivII, e_modII, e_powII, e_ltII, e_leII, e_gtII, e_geII, e_is, e_isNot, e_ixT, e_ixS, e_ixD, e_inD, e_fLenS, e_fLenT, e_fMax2, e_fMin2, e_fAbs, e_fIntI, e_fIntB, e_fBoolI, e_fBoolB, e_mExcF, e_tryNil, e_tryCons, e_mBM, e_mEqO, e_mNeO, e_fLenO, e_fBoolO, e_mtTO, e_mInO, e_mNotInO, e_mGetO, e_mSortedSet, e_mLstRg1, e_mDic1, e_mDic0, e_miRange3, e_mtYes, putD, List.getElem?_cons_zero, List.getElem?_cons_succ, List.set_cons_zero, List.set_cons_succ, List.map_cons, List.map_nil, List.length_cons, List.length_nil, List.cons_append, List.nil_append, List.append_nil, List.replicate, Nat.reduceAdd, Nat.reduceSub, Nat.reduceLeDiff, Nat.zero_add, true_and, and_true, reduceIte, Bool.false_eq_true, Bool.true_eq_false, Bool.not_true, Bool.not_false, w_mLst, w_mMake, w_miLst, w_gmUnl, w_mComp, w_mComp2, compL_nil, w_compL, w_mSetF, w_addRR]
        by_cases hv : v < p / k
        · simp only [decide_eq_true hv, reduceIte, Option.toList] at h ⊢
          exact ⟨hl, h⟩
        · simp only [decide_eq_false hv, Bool.false_eq_true, reduceIte, Option.toList, List.append_nil] at h ⊢
          exact h
      · rw [List.nil_append, filt_map]
        intro j2 S5 e1 e2
        have w0 := w
        replace w := w.new e1 e2
        refine tuple_w w (List.mem_cons_self ..) ?_
        have w1 := W.sub (L' := (S.length, .ins "Moments" [("own_firsts", .tup (fs.map D.int)), ("own_period", .int (p / k))]) :: L) w fun _ _ m => .tail _ m
        refine set_ok w1 (Nat.le_refl _) hL (by simp) fun S6 w => ?_
        rw [put4] at w
        exact hq _ _ _ _ (.inr (.inr ⟨e, hp1, k, hk, hr, hno, rfl, rfl⟩)) w
theorem init_w (w : W n B L S) (m : (i, .lst (fs.map D.int)) ∈ L) (hl : fs.length ≤ 2000) (h0 : ∀ f ∈ fs, 0 ≤ f) (ha : fs.Pairwise (· < ·)) (hp : 0 ≤ p) (hlt : p = 0 ∨ ∀ f ∈ fs, f < p)
    (hq : ∀ S' gs q', Mk fs p gs q' → W n B ((S.length, mom gs q') :: L) S' → q .non S') : u_Moments_init [.ref S.length, .ref i, .int p] (S ++ [.ins "Moments" []]) q x := by
  rw [e_u_Moments_init, e_b_Moments_init, e_b_Moments_init_6, e_b_Moments_init_5]
  try simp only [e_mNext, e_mSeq, e_mExpr, e_mRet, e_mRetN, e_mIfS, e_mBreak, e_mCont, e_mAsg, e_mPar, e_gmName, e_gmNil, e_gmCons, e_gmTup, e_gmSub, e_mVar, e_mC, e_mOp, e_mtB, e_mtT, e_mtNot, e_mtAnd, e_mtOr, e_mAnd, e_mOr, e_mAndT, e_mOrT, e_mIf, e_mNotB, e_mChain, e_maNil, e_maCons, e_mTup, e_mCall, e_mFld, e_mProp, e_mMeth, e_mUnO, e_mBinO, e_mCallO, e_mCMeth, e_mRaise, e_mTry, e_mFn, e_mNeg, e_mIsiB, e_mIsiO, e_mFor, e_miRange1, e_miRange2, e_miRangeW, e_miZip, e_zpT, e_mIsi2, e_miAny, e_seqT, e_powW, e_mAug, e_addI, e_fTupleT, e_mSl00, e_mSl01, e_mSl10, e_mSl11, e_miTup, e_body, e_addII, e_addIB, e_addSS, e_addTT, e_subII, e_mulII, e_fdivII, e_modII, e_powII, e_ltII, e_leII, e_gtII, e_geII, e_is, e_isNot, e_ixT, e_ixS, e_ixD, e_inD, e_fLenS, e_fLenT, e_fMax2, e_fMin2, e_fAbs, e_fIntI, e_fIntB, e_fBoolI, e_fBoolB, e_mExcF, e_tryNil, e_tryCons, e_mBM, e_mEqO, e_mNeO, e_fLenO, e_fBoolO, e_mtTO, e_mInO, e_mNotInO, e_mGetO, e_mSortedSet, e_mLstRg1, e_mDic1, e_mDic0, e_miRange3, e_mtYes, putD, List.getElem?_cons_zero, List.getElem?_cons_succ, List.set_cons_zero, List.set_cons_succ, List.map_cons, List.map_nil, List.length_cons, List.length_nil, List.cons_append, List.nil_append, List.append_nil, List.replicate, Nat.reduceAdd, Nat.reduceSub, Nat.reduceLeDiff, Nat.zero_add, true_and, and_true, reduceIte, Bool.false_eq_true, Bool.true_eq_false, Bool.not_true, Bool.not_false, w_mLst, w_mMake, w_miLst, w_gmUnl, w_mComp, w_mComp2, compL_nil, w_compL, w_mSetF, w_addRR]
  have hL : ∀ i u, (i, u) ∈ L → i ≠ S.length := fun i u m => by
    have := w.lt m
    omega
  have w1 : W n S ((S.length, .ins "Moments" []) :: L) (S ++ [.ins "Moments" []]) := (w.base fun _ _ m => m).new rfl rfl
  have m' : ∀ {o : O}, (i, .lst (fs.map D.int)) ∈ (S.length, o) :: L := .tail _ m
  refine are_firsts_w w1 m' hl fun S1 w1 => ?_
  have e1 : (fs.all fun f => decide (0 ≤ f)) = true := List.all_eq_true.mpr fun f m => decide_eq_true (h0 f m)
  rw [e1, asc_of ha]
  simp only [e_mNext, e_mSeq, e_mExpr, e_mRet, e_mRetN, e_mIfS, e_mBreak, e_mCont, e_mAsg, e_mPar, e_gmName, e_gmNil, e_gmCons, e_gmTup, e_gmSub, e_mVar, e_mC, e_mOp, e_mtB, e_mtT, e_mtNot, e_mtAnd, e_mtOr, e_mAnd, e_mOr, e_mAndT, e_mOrT, e_mIf, e_mNotB, e_mChain, e_maNil, e_maCons, e_mTup, e_mCall, e_mFld, e_mProp, e_mMeth, e_mUnO, e_mBinO, e_mCallO, e_mCMeth, e_mRaise, e_mTry, e_mFn, e_mNeg, e_mIsiB, e_mIsiO, e_mFor, e_miRange1, e_miRange2, e_miRangeW, e_miZip, e_zpT, e_mIsi2, e_miAny, e_seqT, e_powW, e_mAug, e_addI, e_fTupleT, e_mSl00, e_mSl01, e_mSl10, e_mSl11, e_miTup, e_body, e_addII, e_addIB, e_addSS, e_addTT, e_subII, e_mulII, e_fdivII, e_modII, e_powII, e_ltII, e_leII, e_gtII, e_geII, e_is, e_isNot, e_ixT, e_ixS, e_ixD, e_inD, e_fLenS, e_fLenT, e_fMax2, e_fMin2, e_fAbs, e_fIntI, e_fIntB, e_fBoolI, e_fBoolB, e_mExcF, e_tryNil, e_tryCons, e_mBM, e_mEqO, e_mNeO, e_fLenO, e_fBoolO, e_mtTO, e_mInO, e_mNotInO, e_mGetO, e_mSortedSet, e_mLstRg1, e_mDic1, e_mDic0, e_miRange3, e_mtYes, putD, List.getElem?_cons_zero, List.getElem?_cons_succ, List.set_cons_zero, List.set_cons_succ, List.map_cons, List.map_nil, List.length_cons, List.length_nil, List.cons_append, List.nil_append, List.append_nil, List.replicate, Nat.reduceAdd, Nat.reduceSub, Nat.reduceLeDiff, Nat.zero_add, true_and, and_true, reduceIte, Bool.false_eq_true, Bool.true_eq_false, Bool.not_true, Bool.not_false, w_mLst, w_mMake, w_miLst, w_gmUnl, w_mComp, w_mComp2, compL_nil, w_compL, w_mSetF, w_addRR, Bool.and_self]
  refine check_least_ok True.intro (fun _ _ _ => ?_) (fun e => by
    rcases e with e | ⟨i, e, h⟩
    · cases e
    · cases e; omega)
  try simp only [e_mNext, e_mSeq, e_mExpr, e_mRet, e_mRetN, e_mIfS, e_mBreak, e_mCont, e_mAsg, e_mPar, e_gmName, e_gmNil, e_gmCons, e_gmTup, e_gmSub, e_mVar, e_mC, e_mOp, e_mtB, e_mtT, e_mtNot, e_mtAnd, e_mtOr, e_mAnd, e_mOr, e_mAndT, e_mOrT, e_mIf, e_mNotB, e_mChain, e_maNil, e_maCons, e_mTup, e_mCall, e_mFld, e_mProp, e_mMeth, e_mUnO, e_mBinO, e_mCallO, e_mCMeth, e_mRaise, e_mTry, e_mFn, e_mNeg, e_mIsiB, e_mIsiO, e_mFor, e_miRange1, e_miRange2, e_miRangeW, e_miZip, e_zpT, e_mIsi2, e_miAny, e_seqT, e_powW, e_mAug, e_addI, e_fTupleT, e_mSl00, e_mSl01, e_mSl10, e_mSl11, e_miTup, e_body, e_addII, e_addIB, e_addSS, e_addTT, e_subII, e_mulII, e_fdivII, e_modII, e_powII, e_ltII, e_leII, e_gtII, e_geII, e_is, e_isNot, e_ixT, e_ixS, e_ixD, e_inD, e_fLenS, e_fLenT, e_fMax2, e_fMin2, e_fAbs, e_fIntI, e_fIntB, e_fBoolI, e_fBoolB, e_mExcF, e_tryNil, e_tryCons, e_mBM, e_mEqO, e_mNeO, e_fLenO, e_fBoolO, e_mtTO, e_mInO, e_mNotInO, e_mGetO, e_mSortedSet, e_mLstRg1, e_mDic1, e_mDic0, e_miRange3, e_mtYes, putD, List.getElem?_cons_zero, List.getElem?_cons_succ, List.set_cons_zero, List.set_cons_succ, List.map_cons, List.map_nil, List.length_cons, List.length_nil, List.cons_append, List.nil_append, List.append_nil, List.replicate, Nat.reduceAdd, Nat.reduceSub, Nat.reduceLeDiff, Nat.zero_add, true_and, and_true, reduceIte, Bool.false_eq_true, Bool.true_eq_false, Bool.not_true, Bool.not_false, w_mLst, w_mMake, w_miLst, w_gmUnl, w_mComp, w_mComp2, compL_nil, w_compL, w_mSetF, w_addRR]
  have fin : ∀ {S2 : Sto} {c3 : Option D} {md : MEnds}, (∀ S' c3, md.nx [some (.ref S.length), some (.ref i), some (.int p), c3] S' = q .non S') → W n S ((S.length, .ins "Moments" []) :: L) S2 → b_Moments_init_4 md [some (.ref S.length), some (.ref i), some (.int p), c3] S2 := fun {S2 c3 md} hmd w2 =>
    init4_w w2 hL m hl hp fun S' gs q' c3 hk w3 => by
      rw [hmd]
      refine hq S' gs q' hk ?_
      have b := w.back w3
      exact ⟨b.src, b.fr, fun j o h => by
        rcases List.mem_cons.mp h with e | h
        · exact w3.kn j o (by rw [e]; exact List.mem_cons_self)
        · exact b.kn j o h⟩
  by_cases hp0 : p = 0
  · rw [if_neg (by simp; omega)]
    exact fin (fun _ _ => rfl) w1
  · rw [if_pos (by simp; omega)]
    simp only [wipeD, List.set_cons_succ, List.set_cons_zero]
    first | refine wlk_ok w1 m' ?_ | refine seq_w' w1 m' ?_
    refine compA D.int (fun v => some (D.bl (decide (v < p)))) (w1.get m') fs [] (by simp; omega) (fun v _ acc C hl h => ?_) ?_
    · simp only [e_mNext, e_mSeq, e_mExpr, e_mRet, e_mRetN, e_mIfS, e_mBreak, e_mCont, e_mAsg, e_mPar, e_gmName, e_gmNil, e_gmCons, e_gmTup, e_gmSub, e_mVar, e_mC, e_mOp, e_mtB, e_mtT, e_mtNot, e_mtAnd, e_mtOr, e_mAnd, e_mOr, e_mAndT, e_mOrT, e_mIf, e_mNotB, e_mChain, e_maNil, e_maCons, e_mTup, e_mCall, e_mFld, e_mProp, e_mMeth, e_mUnO, e_mBinO, e_mCallO, e_mCMeth, e_mRaise, e_mTry, e_mFn, e_mNeg, e_mIsiB, e_mIsiO, e_mFor, e_miRange1, e_miRange2, e_miRangeW, e_miZip, e_zpT, e_mIsi2, e_miAny, e_seqT, e_powW, e_mAug, e_addI, e_fTupleT, e_mSl00, e_mSl01, e_mSl10, e_mSl11, e_miTup, e_body, e_addII, e_addIB, e_addSS, e_addTT, e_subII, e_mulII, e_fdivII, e_modII, e_powII, e_ltII, e_leII, e_gtII, e_geII, e_is, e_isNot, e_ixT, e_ixS, e_ixD, e_inD, e_fLenS, e_fLenT, e_fMax2, e_fMin2, e_fAbs, e_fIntI, e_fIntB, e_fBoolI, e_fBoolB, e_mExcF, e_tryNil, e_tryCons, e_mBM, e_mEqO, e_mNeO, e_fLenO, e_fBoolO, e_mtTO, e_mInO, e_mNotInO, e_mGetO, e_mSortedSet, e_mLstRg1, e_mDic1, e_mDic0, e_miRange3, e_mtYes, putD, List.getElem?_cons_zero, List.getElem?_cons_succ, List.set_cons_zero, List.set_cons_succ, List.map_cons, List.map_nil, List.length_cons, List.length_nil, List.cons_append, List.nil_append, List.append_nil, List.replicate, Nat.reduceAdd, Nat.reduceSub, Nat.reduceLeDiff, Nat.zero_add, true_and, and_true, reduceIte, Bool.false_eq_true, Bool.true_eq_false, Bool.not_true, Bool.not_false, w_mLst, w_mMake, w_miLst, w_gmUnl, w_mComp, w_mComp2, compL_nil, w_compL, w_mSetF, w_addRR]
      exact ⟨hl, h⟩
    · rw [List.nil_append, map_some]
      intro j2 S2 e2 e3
      have w2 := w1.new e2 e3
      refine all_w (bs := fs.map fun v => decide (v < p)) w2 (by rw [List.map_map]; exact List.mem_cons_self) ?_
      have e4 : ((fs.map fun v => decide (v < p)).all id) = true := by
        rcases hlt with h | h
        · exact absurd h hp0
        · rw [List.all_map, List.all_eq_true]
          exact fun f m => decide_eq_true (h f m)
      simp only [e4, e_mNext, e_mSeq, e_mExpr, e_mRet, e_mRetN, e_mIfS, e_mBreak, e_mCont, e_mAsg, e_mPar, e_gmName, e_gmNil, e_gmCons, e_gmTup, e_gmSub, e_mVar, e_mC, e_mOp, e_mtB, e_mtT, e_mtNot, e_mtAnd, e_mtOr, e_mAnd, e_mOr, e_mAndT, e_mOrT, e_mIf, e_mNotB, e_mChain, e_maNil, e_maCons, e_mTup, e_mCall, e_mFld, e_mProp, e_mMeth, e_mUnO, e_mBinO, e_mCallO, e_mCMeth, e_mRaise, e_mTry, e_mFn, e_mNeg, e_mIsiB, e_mIsiO, e_mFor, e_miRange1, e_miRange2, e_miRangeW, e_miZip, e_zpT, e_mIsi2, e_miAny, e_seqT, e_powW, e_mAug, e_addI, e_fTupleT, e_mSl00, e_mSl01, e_mSl10, e_mSl11, e_miTup, e_body, e_addII, e_addIB, e_addSS, e_addTT, e_subII, e_mulII, e_fdivII, e_modII, e_powII, e_ltII, e_leII, e_gtII, e_geII, e_is, e_isNot, e_ixT, e_ixS, e_ixD, e_inD, e_fLenS, e_fLenT, e_fMax2, e_fMin2, e_fAbs, e_fIntI, e_fIntB, e_fBoolI, e_fBoolB, e_mExcF, e_tryNil, e_tryCons, e_mBM, e_mEqO, e_mNeO, e_fLenO, e_fBoolO, e_mtTO, e_mInO, e_mNotInO, e_mGetO, e_mSortedSet, e_mLstRg1, e_mDic1, e_mDic0, e_miRange3, e_mtYes, putD, List.getElem?_cons_zero, List.getElem?_cons_succ, List.set_cons_zero, List.set_cons_succ, List.map_cons, List.map_nil, List.length_cons, List.length_nil, List.cons_append, List.nil_append, List.append_nil, List.replicate, Nat.reduceAdd, Nat.reduceSub, Nat.reduceLeDiff, Nat.zero_add, true_and, and_true, reduceIte, Bool.false_eq_true, Bool.true_eq_false, Bool.not_true, Bool.not_false, w_mLst, w_mMake, w_miLst, w_gmUnl, w_mComp, w_mComp2, compL_nil, w_compL, w_mSetF, w_addRR]
      exact fin (fun _ _ => rfl) (w2.sub fun _ _ m => .tail _ m)
end
end Lw

namespace Lw
open PySem PySem.Spec PyProof.Rows L2

/-! ### what Moments stores -/
theorem Mk.ok {fs gs : List Int} {p q : Int} (h : Mk fs p gs q) (hp : 0 ≤ p) (h0 : ∀ f ∈ fs, 0 ≤ f) (so : fs.Pairwise (· < ·)) (hlt : p = 0 ∨ ∀ f ∈ fs, f < p) :
    MOk gs q ∧ (gs = [] ↔ fs = []) ∧ (q = 0 ↔ p = 0 ∨ fs = []) ∧ (q = 0 → gs = fs) ∧ q ≤ p := by
  rcases h with ⟨rfl, rfl, rfl⟩ | ⟨hn, rfl, rfl, rfl⟩ | ⟨hn, hp1, k, hk, r, hno, rfl, rfl⟩
  · exact ⟨⟨Int.le_refl _, fun g m => (by cases m), List.Pairwise.nil⟩, by simp, by simp, fun _ => rfl, hp⟩
  · exact ⟨⟨Int.le_refl _, fun g m => ⟨h0 g m, .inl rfl⟩, so⟩, Iff.rfl, by simp, fun _ => rfl, Int.le_refl _⟩
  · have k0 : 0 < (k : Int) := by have := r.k0; omega
    have e := Int.mul_ediv_add_emod p k
    rw [r.kp] at e
    have hlt : ∀ f ∈ fs, f < p := by
      rcases hlt with h | h
      · omega
      · exact h
    generalize hq : p / (k : Int) = q at *
    have q0 : 0 < q := by
      by_cases h : 0 < q
      · exact h
      · have := Int.mul_le_mul_of_nonneg_left (show q ≤ 0 by omega) (show (0 : Int) ≤ k by omega)
        omega
    have qp : q ≤ p := by
      have := Int.mul_le_mul_of_nonneg_right (show (1 : Int) ≤ k by omega) (show 0 ≤ q by omega)
      omega
    refine ⟨⟨by omega, fun g m => ?_, so.filter _⟩, ?_, ?_, fun z => by omega, qp⟩
    · obtain ⟨h1, h2⟩ := List.mem_filter.mp m
      exact ⟨h0 g h1, .inr (of_decide_eq_true h2)⟩
    · refine ⟨fun he => ?_, fun he => absurd he hn⟩
      exfalso
      cases fs with
      | nil => exact hn rfl
      | cons a rest =>
        have hd : 0 < (a :: rest).length / k := Nat.div_pos hk r.k0
        have ma : a + ((k - 1 : Nat) : Int) * q ∈ a :: rest := by
          rw [r.eq]
          unfold rep
          refine List.mem_flatMap.mpr ⟨k - 1, List.mem_range.mpr (by have := r.k0; omega), List.mem_map.mpr ⟨a, ?_, by rw [hq]⟩⟩
          cases hm : (a :: rest).length / k with
          | zero => omega
          | succ m => exact List.mem_cons_self
        have l := hlt _ ma
        have e2 : ((k - 1 : Nat) : Int) * q = k * q - q := by
          rw [show ((k - 1 : Nat) : Int) = k - 1 from by omega, Int.sub_mul, Int.one_mul]
        have : a ∈ (a :: rest).filter fun f => decide (f < q) := List.mem_filter.mpr ⟨List.mem_cons_self, decide_eq_true (by omega)⟩
        rw [he] at this
        cases this
    · constructor
      · intro z; omega
      · rintro (z | z)
        · omega
        · exact absurd z hn
theorem sum_cn {p k : Int} : ∀ gs : List Int, (gs.filterMap fun g => if decide (g ≤ k) = true then some ((k - g) / p + 1) else none).sum = cn p gs k
  | [] => rfl
  | g :: gs => by
    have ih := sum_cn (p := p) (k := k) gs
    unfold cn tG
    rw [List.filterMap_cons, ← ih]
    by_cases h : g ≤ k
    · simp [h]
    · simp [h]
theorem cn_zero {k : Int} : ∀ gs : List Int, cn 0 gs k = ct gs k
  | [] => rfl
  | g :: gs => by
    unfold cn ct tG
    rw [cn_zero gs, Int.ediv_zero]
    split <;> rfl
theorem atI_nat {ds : List D} {k : Nat} {y : D} (h : ds[k]? = some y) : L2.atI ds (k : Int) = some y := by
  have hl : k < ds.length := (List.getElem?_eq_some_iff.mp h).1
  unfold L2.atI L2.ixN
  simp [hl]
  exact (List.getElem?_eq_some_iff.mp h).2
section
variable {n : Nat} {B : Sto} {L L' : List (Nat × O)} {S S0 S' : Sto} {j j2 i : Nat} {o : O} {ds xs : List D} {d : D} {q : QD} {x : QX} {t p per k v : Int} {K : QD} {md : MEnds} {fs gs : List Int} {c3 : Option D} {P : PyData}
theorem contains_w (w : W n B L S) (m : (j, mom gs p) ∈ L) (hp : 0 ≤ p) (hq : q (.bl (decide (0 ≤ k) && decide (k % p ∈ gs))) S) : u_Moments_contains [.ref j, .int k] S q x := by
  rw [e_u_Moments_contains, e_b_Moments_contains]
  simp only [e_mNext, e_mSeq, e_mExpr, e_mRet, e_mRetN, e_mIfS, e_mBreak, e_mCont, e_mAsg, e_mPar, e_gmName, e_gmNil, e_gmCons, e_gmTup, e_gmSub, e_mVar, e_mC, e_mOp, e_mtB, e_mtT, e_mtNot, e_mtAnd, e_mtOr, e_mAnd, e_mOr, e_mAndT, e_mOrT, e_mIf, e_mNotB, e_mChain, e_maNil, e_maCons, e_mTup, e_mCall, e_mFld, e_mProp, e_mMeth, e_mUnO, e_mBinO, e_mCallO, e_mCMeth, e_mRaise, e_mTry, e_mFn, e_mNeg, e_mIsiB, e_mIsiO, e_mFor, e_miRange1, e_miRange2, e_miRangeW, e_miZip, e_zpT, e_mIsi2, e_miAny, e_seqT, e_powW, e_mAug, e_addI, e_fTupleT, e_mSl00, e_mSl01, e_mSl10, e_mSl11, e_miTup, e_body, e_addII, e_addIB, e_addSS, e_addTT, e_subII, e_mulII, e_fdivII, e_modII, e_powII, e_ltII, e_leII, e_gtII, e_geII, e_is, e_isNot, e_ixT, e_ixS, e_ixD, e_inD, e_fLenS, e_fLenT, e_fMax2, e_fMin2, e_fAbs, e_fIntI, e_fIntB, e_fBoolI, e_fBoolB, e_mExcF, e_tryNil, e_tryCons, e_mBM, e_mEqO, e_mNeO, e_fLenO, e_fBoolO, e_mtTO, e_mInO, e_mNotInO, e_mGetO, e_mSortedSet, e_mLstRg1, e_mDic1, e_mDic0, e_miRange3, e_mtYes, putD, List.getElem?_cons_zero, List.getElem?_cons_succ, List.set_cons_zero, List.set_cons_succ, List.map_cons, List.map_nil, List.length_cons, List.length_nil, List.cons_append, List.nil_append, List.append_nil, List.replicate, Nat.reduceAdd, Nat.reduceSub, Nat.reduceLeDiff, Nat.zero_add, true_and, and_true, reduceIte, Bool.false_eq_true, Bool.true_eq_false, Bool.not_true, Bool.not_false, w_mLst, w_mMake, w_miLst, w_gmUnl, w_mComp, w_mComp2, compL_nil, w_compL, w_mSetF, w_addRR]
  refine is_integer_ok True.intro ?_
  simp only [e_mNext, e_mSeq, e_mExpr, e_mRet, e_mRetN, e_mIfS, e_mBreak, e_mCont, e_mAsg, e_mPar, e_gmName, e_gmNil, e_gmCons, e_gmTup, e_gmSub, e_mVar, e_mC, e_mOp, e_mtB, e_mtT, e_mtNot, e_mtAnd, e_mtOr, e_mAnd, e_mOr, e_mAndT, e_mOrT, e_mIf, e_mNotB, e_mChain, e_maNil, e_maCons, e_mTup, e_mCall, e_mFld, e_mProp, e_mMeth, e_mUnO, e_mBinO, e_mCallO, e_mCMeth, e_mRaise, e_mTry, e_mFn, e_mNeg, e_mIsiB, e_mIsiO, e_mFor, e_miRange1, e_miRange2, e_miRangeW, e_miZip, e_zpT, e_mIsi2, e_miAny, e_seqT, e_powW, e_mAug, e_addI, e_fTupleT, e_mSl00, e_mSl01, e_mSl10, e_mSl11, e_miTup, e_body, e_addII, e_addIB, e_addSS, e_addTT, e_subII, e_mulII, e_fdivII, e_modII, e_powII, e_ltII, e_leII, e_gtII, e_geII, e_is, e_isNot, e_ixT, e_ixS, e_ixD, e_inD, e_fLenS, e_fLenT, e_fMax2, e_fMin2, e_fAbs, e_fIntI, e_fIntB, e_fBoolI, e_fBoolB, e_mExcF, e_tryNil, e_tryCons, e_mBM, e_mEqO, e_mNeO, e_fLenO, e_fBoolO, e_mtTO, e_mInO, e_mNotInO, e_mGetO, e_mSortedSet, e_mLstRg1, e_mDic1, e_mDic0, e_miRange3, e_mtYes, putD, List.getElem?_cons_zero, List.getElem?_cons_succ, List.set_cons_zero, List.set_cons_succ, List.map_cons, List.map_nil, List.length_cons, List.length_nil, List.cons_append, List.nil_append, List.append_nil, List.replicate, Nat.reduceAdd, Nat.reduceSub, Nat.reduceLeDiff, Nat.zero_add, true_and, and_true, reduceIte, Bool.false_eq_true, Bool.true_eq_false, Bool.not_true, Bool.not_false, w_mLst, w_mMake, w_miLst, w_gmUnl, w_mComp, w_mComp2, compL_nil, w_compL, w_mSetF, w_addRR, show isIntD (.int k) = true from rfl]
  by_cases hk : k < 0
  · simp only [decide_eq_true hk, decide_eq_false (show ¬ 0 ≤ k by omega), e_mNext, e_mSeq, e_mExpr, e_mRet, e_mRetN, e_mIfS, e_mBreak, e_mCont, e_mAsg, e_mPar, e_gmName, e_gmNil, e_gmCons, e_gmTup, e_gmSub, e_mVar, e_mC, e_mOp, e_mtB, e_mtT, e_mtNot, e_mtAnd, e_mtOr, e_mAnd, e_mOr, e_mAndT, e_mOrT, e_mIf, e_mNotB, e_mChain, e_maNil, e_maCons, e_mTup, e_mCall, e_mFld, e_mProp, e_mMeth, e_mUnO, e_mBinO, e_mCallO, e_mCMeth, e_mRaise, e_mTry, e_mFn, e_mNeg, e_mIsiB, e_mIsiO, e_mFor, e_miRange1, e_miRange2, e_miRangeW, e_miZip, e_zpT, e_mIsi2, e_miAny, e_seqT, e_powW, e_mAug, e_addI, e_fTupleT, e_mSl00, e_mSl01, e_mSl10, e_mSl11, e_miTup, e_body, e_addII, e_addIB, e_addSS, e_addTT, e_subII, e_mulII, e_fdivII, e_modII, e_powII, e_ltII, e_leII, e_gtII, e_geII, e_is, e_isNot, e_ixT, e_ixS, e_ixD, e_inD, e_fLenS, e_fLenT, e_fMax2, e_fMin2, e_fAbs, e_fIntI, e_fIntB, e_fBoolI, e_fBoolB, e_mExcF, e_tryNil, e_tryCons, e_mBM, e_mEqO, e_mNeO, e_fLenO, e_fBoolO, e_mtTO, e_mInO, e_mNotInO, e_mGetO, e_mSortedSet, e_mLstRg1, e_mDic1, e_mDic0, e_miRange3, e_mtYes, putD, List.getElem?_cons_zero, List.getElem?_cons_succ, List.set_cons_zero, List.set_cons_succ, List.map_cons, List.map_nil, List.length_cons, List.length_nil, List.cons_append, List.nil_append, List.append_nil, List.replicate, Nat.reduceAdd, Nat.reduceSub, Nat.reduceLeDiff, Nat.zero_add, true_and, and_true, reduceIte, Bool.false_eq_true, Bool.true_eq_false, Bool.not_true, Bool.not_false, w_mLst, w_mMake, w_miLst, w_gmUnl, w_mComp, w_mComp2, compL_nil, w_compL, w_mSetF, w_addRR, Bool.false_and] at hq ⊢
    exact hq
  · simp only [decide_eq_false hk, decide_eq_true (show 0 ≤ k by omega), e_mNext, e_mSeq, e_mExpr, e_mRet, e_mRetN, e_mIfS, e_mBreak, e_mCont, e_mAsg, e_mPar, e_gmName, e_gmNil, e_gmCons, e_gmTup, e_gmSub, e_mVar, e_mC, e_mOp, e_mtB, e_mtT, e_mtNot, e_mtAnd, e_mtOr, e_mAnd, e_mOr, e_mAndT, e_mOrT, e_mIf, e_mNotB, e_mChain, e_maNil, e_maCons, e_mTup, e_mCall, e_mFld, e_mProp, e_mMeth, e_mUnO, e_mBinO, e_mCallO, e_mCMeth, e_mRaise, e_mTry, e_mFn, e_mNeg, e_mIsiB, e_mIsiO, e_mFor, e_miRange1, e_miRange2, e_miRangeW, e_miZip, e_zpT, e_mIsi2, e_miAny, e_seqT, e_powW, e_mAug, e_addI, e_fTupleT, e_mSl00, e_mSl01, e_mSl10, e_mSl11, e_miTup, e_body, e_addII, e_addIB, e_addSS, e_addTT, e_subII, e_mulII, e_fdivII, e_modII, e_powII, e_ltII, e_leII, e_gtII, e_geII, e_is, e_isNot, e_ixT, e_ixS, e_ixD, e_inD, e_fLenS, e_fLenT, e_fMax2, e_fMin2, e_fAbs, e_fIntI, e_fIntB, e_fBoolI, e_fBoolB, e_mExcF, e_tryNil, e_tryCons, e_mBM, e_mEqO, e_mNeO, e_fLenO, e_fBoolO, e_mtTO, e_mInO, e_mNotInO, e_mGetO, e_mSortedSet, e_mLstRg1, e_mDic1, e_mDic0, e_miRange3, e_mtYes, putD, List.getElem?_cons_zero, List.getElem?_cons_succ, List.set_cons_zero, List.set_cons_succ, List.map_cons, List.map_nil, List.length_cons, List.length_nil, List.cons_append, List.nil_append, List.append_nil, List.replicate, Nat.reduceAdd, Nat.reduceSub, Nat.reduceLeDiff, Nat.zero_add, true_and, and_true, reduceIte, Bool.false_eq_true, Bool.true_eq_false, Bool.not_true, Bool.not_false, w_mLst, w_mMake, w_miLst, w_gmUnl, w_mComp, w_mComp2, compL_nil, w_compL, w_mSetF, w_addRR, Bool.true_and] at hq ⊢
    refine ins_ok w m ?_
    simp only [fl_period, e_mNext, e_mSeq, e_mExpr, e_mRet, e_mRetN, e_mIfS, e_mBreak, e_mCont, e_mAsg, e_mPar, e_gmName, e_gmNil, e_gmCons, e_gmTup, e_gmSub, e_mVar, e_mC, e_mOp, e_mtB, e_mtT, e_mtNot, e_mtAnd, e_mtOr, e_mAnd, e_mOr, e_mAndT, e_mOrT, e_mIf, e_mNotB, e_mChain, e_maNil, e_maCons, e_mTup, e_mCall, e_mFld, e_mProp, e_mMeth, e_mUnO, e_mBinO, e_mCallO, e_mCMeth, e_mRaise, e_mTry, e_mFn, e_mNeg, e_mIsiB, e_mIsiO, e_mFor, e_miRange1, e_miRange2, e_miRangeW, e_miZip, e_zpT, e_mIsi2, e_miAny, e_seqT, e_powW, e_mAug, e_addI, e_fTupleT, e_mSl00, e_mSl01, e_mSl10, e_mSl11, e_miTup, e_body, e_addII, e_addIB, e_addSS, e_addTT, e_subII, e_mulII, e_fdivII, e_modII, e_powII, e_ltII, e_leII, e_gtII, e_geII, e_is, e_isNot, e_ixT, e_ixS, e_ixD, e_inD, e_fLenS, e_fLenT, e_fMax2, e_fMin2, e_fAbs, e_fIntI, e_fIntB, e_fBoolI, e_fBoolB, e_mExcF, e_tryNil, e_tryCons, e_mBM, e_mEqO, e_mNeO, e_fLenO, e_fBoolO, e_mtTO, e_mInO, e_mNotInO, e_mGetO, e_mSortedSet, e_mLstRg1, e_mDic1, e_mDic0, e_miRange3, e_mtYes, putD, List.getElem?_cons_zero, List.getElem?_cons_succ, List.set_cons_zero, List.set_cons_succ, List.map_cons, List.map_nil, List.length_cons, List.length_nil, List.cons_append, List.nil_append, List.append_nil, List.replicate, Nat.reduceAdd, Nat.reduceSub, Nat.reduceLeDiff, Nat.zero_add, true_and, and_true, reduceIte, Bool.false_eq_true, Bool.true_eq_false, Bool.not_true, Bool.not_false, w_mLst, w_mMake, w_miLst, w_gmUnl, w_mComp, w_mComp2, compL_nil, w_compL, w_mSetF, w_addRR, mEq_int']
    by_cases h : p = 0
    · rw [if_pos (by rw [h]; rfl)]
      refine ins_ok w m ?_
      simp only [fl_firsts, e_mNext, e_mSeq, e_mExpr, e_mRet, e_mRetN, e_mIfS, e_mBreak, e_mCont, e_mAsg, e_mPar, e_gmName, e_gmNil, e_gmCons, e_gmTup, e_gmSub, e_mVar, e_mC, e_mOp, e_mtB, e_mtT, e_mtNot, e_mtAnd, e_mtOr, e_mAnd, e_mOr, e_mAndT, e_mOrT, e_mIf, e_mNotB, e_mChain, e_maNil, e_maCons, e_mTup, e_mCall, e_mFld, e_mProp, e_mMeth, e_mUnO, e_mBinO, e_mCallO, e_mCMeth, e_mRaise, e_mTry, e_mFn, e_mNeg, e_mIsiB, e_mIsiO, e_mFor, e_miRange1, e_miRange2, e_miRangeW, e_miZip, e_zpT, e_mIsi2, e_miAny, e_seqT, e_powW, e_mAug, e_addI, e_fTupleT, e_mSl00, e_mSl01, e_mSl10, e_mSl11, e_miTup, e_body, e_addII, e_addIB, e_addSS, e_addTT, e_subII, e_mulII, e_fdivII, e_modII, e_powII, e_ltII, e_leII, e_gtII, e_geII, e_is, e_isNot, e_ixT, e_ixS, e_ixD, e_inD, e_fLenS, e_fLenT, e_fMax2, e_fMin2, e_fAbs, e_fIntI, e_fIntB, e_fBoolI, e_fBoolB, e_mExcF, e_tryNil, e_tryCons, e_mBM, e_mEqO, e_mNeO, e_fLenO, e_fBoolO, e_mtTO, e_mInO, e_mNotInO, e_mGetO, e_mSortedSet, e_mLstRg1, e_mDic1, e_mDic0, e_miRange3, e_mtYes, putD, List.getElem?_cons_zero, List.getElem?_cons_succ, List.set_cons_zero, List.set_cons_succ, List.map_cons, List.map_nil, List.length_cons, List.length_nil, List.cons_append, List.nil_append, List.append_nil, List.replicate, Nat.reduceAdd, Nat.reduceSub, Nat.reduceLeDiff, Nat.zero_add, true_and, and_true, reduceIte, Bool.false_eq_true, Bool.true_eq_false, Bool.not_true, Bool.not_false, w_mLst, w_mMake, w_miLst, w_gmUnl, w_mComp, w_mComp2, compL_nil, w_compL, w_mSetF, w_addRR, in_tupI]
      rw [h, Int.emod_zero] at hq
      exact hq
    · rw [if_neg (by simpa using h)]
      refine ins_ok w m ?_
      simp only [fl_period, e_mNext, e_mSeq, e_mExpr, e_mRet, e_mRetN, e_mIfS, e_mBreak, e_mCont, e_mAsg, e_mPar, e_gmName, e_gmNil, e_gmCons, e_gmTup, e_gmSub, e_mVar, e_mC, e_mOp, e_mtB, e_mtT, e_mtNot, e_mtAnd, e_mtOr, e_mAnd, e_mOr, e_mAndT, e_mOrT, e_mIf, e_mNotB, e_mChain, e_maNil, e_maCons, e_mTup, e_mCall, e_mFld, e_mProp, e_mMeth, e_mUnO, e_mBinO, e_mCallO, e_mCMeth, e_mRaise, e_mTry, e_mFn, e_mNeg, e_mIsiB, e_mIsiO, e_mFor, e_miRange1, e_miRange2, e_miRangeW, e_miZip, e_zpT, e_mIsi2, e_miAny, e_seqT, e_powW, e_mAug, e_addI, e_fTupleT, e_mSl00, e_mSl01, e_mSl10, e_mSl11, e_miTup, e_body, e_addII, e_addIB, e_addSS, e_addTT, e_subII, e_mulII, e_fdivII, e_modII, e_powII, e_ltII, e_leII, e_gtII, e_geII, e_is, e_isNot, e_ixT, e_ixS, e_ixD, e_inD, e_fLenS, e_fLenT, e_fMax2, e_fMin2, e_fAbs, e_fIntI, e_fIntB, e_fBoolI, e_fBoolB, e_mExcF, e_tryNil, e_tryCons, e_mBM, e_mEqO, e_mNeO, e_fLenO, e_fBoolO, e_mtTO, e_mInO, e_mNotInO, e_mGetO, e_mSortedSet, e_mLstRg1, e_mDic1, e_mDic0, e_miRange3, e_mtYes, putD, List.getElem?_cons_zero, List.getElem?_cons_succ, List.set_cons_zero, List.set_cons_succ, List.map_cons, List.map_nil, List.length_cons, List.length_nil, List.cons_append, List.nil_append, List.append_nil, List.replicate, Nat.reduceAdd, Nat.reduceSub, Nat.reduceLeDiff, Nat.zero_add, true_and, and_true, reduceIte, Bool.false_eq_true, Bool.true_eq_false, Bool.not_true, Bool.not_false, w_mLst, w_mMake, w_miLst, w_gmUnl, w_mComp, w_mComp2, compL_nil, w_compL, w_mSetF, w_addRR]
      refine ⟨by omega, ?_⟩
      refine ins_ok w m ?_
      simp only [fl_firsts, e_mNext, e_mSeq, e_mExpr, e_mRet, e_mRetN, e_mIfS, e_mBreak, e_mCont, e_mAsg, e_mPar, e_gmName, e_gmNil, e_gmCons, e_gmTup, e_gmSub, e_mVar, e_mC, e_mOp, e_mtB, e_mtT, e_mtNot, e_mtAnd, e_mtOr, e_mAnd, e_mOr, e_mAndT, e_mOrT, e_mIf, e_mNotB, e_mChain, e_maNil, e_maCons, e_mTup, e_mCall, e_mFld, e_mProp, e_mMeth, e_mUnO, e_mBinO, e_mCallO, e_mCMeth, e_mRaise, e_mTry, e_mFn, e_mNeg, e_mIsiB, e_mIsiO, e_mFor, e_miRange1, e_miRange2, e_miRangeW, e_miZip, e_zpT, e_mIsi2, e_miAny, e_seqT, e_powW, e_mAug, e_addI, e_fTupleT, e_mSl00, e_mSl01, e_mSl10, e_mSl11, e_miTup, e_body, e_addII, e_addIB, e_addSS, e_addTT, e_subII, e_mulII, e_fdivII, e_modII, e_powII, e_ltII, e_leII, e_gtII, e_geII, e_is, e_isNot, e_ixT, e_ixS, e_ixD, e_inD, e_fLenS, e_fLenT, e_fMax2, e_fMin2, e_fAbs, e_fIntI, e_fIntB, e_fBoolI, e_fBoolB, e_mExcF, e_tryNil, e_tryCons, e_mBM, e_mEqO, e_mNeO, e_fLenO, e_fBoolO, e_mtTO, e_mInO, e_mNotInO, e_mGetO, e_mSortedSet, e_mLstRg1, e_mDic1, e_mDic0, e_miRange3, e_mtYes, putD, List.getElem?_cons_zero, List.getElem?_cons_succ, List.set_cons_zero, List.set_cons_succ, List.map_cons, List.map_nil, List.length_cons, List.length_nil, List.cons_append, List.nil_append, List.append_nil, List.replicate, Nat.reduceAdd, Nat.reduceSub, Nat.reduceLeDiff, Nat.zero_add, true_and, and_true, reduceIte, Bool.false_eq_true, Bool.true_eq_false, Bool.not_true, Bool.not_false, w_mLst, w_mMake, w_miLst, w_gmUnl, w_mComp, w_mComp2, compL_nil, w_compL, w_mSetF, w_addRR, in_tupI]
      exact hq
theorem period_w (w : W n B L S) (m : (j, mom gs p) ∈ L) (hq : q (.int p) S) : u_Moments_period [.ref j] S q x := by
  rw [e_u_Moments_period, e_b_Moments_period]
  simp only [e_mNext, e_mSeq, e_mExpr, e_mRet, e_mRetN, e_mIfS, e_mBreak, e_mCont, e_mAsg, e_mPar, e_gmName, e_gmNil, e_gmCons, e_gmTup, e_gmSub, e_mVar, e_mC, e_mOp, e_mtB, e_mtT, e_mtNot, e_mtAnd, e_mtOr, e_mAnd, e_mOr, e_mAndT, e_mOrT, e_mIf, e_mNotB, e_mChain, e_maNil, e_maCons, e_mTup, e_mCall, e_mFld, e_mProp, e_mMeth, e_mUnO, e_mBinO, e_mCallO, e_mCMeth, e_mRaise, e_mTry, e_mFn, e_mNeg, e_mIsiB, e_mIsiO, e_mFor, e_miRange1, e_miRange2, e_miRangeW, e_miZip, e_zpT, e_mIsi2, e_miAny, e_seqT, e_powW, e_mAug, e_addI, e_fTupleT, e_mSl00, e_mSl01, e_mSl10, e_mSl11, e_miTup, e_body, e_addII, e_addIB, e_addSS, e_addTT, e_subII, e_mulII, e_fdivII, e_modII, e_powII, e_ltII, e_leII, e_gtII, e_geII, e_is, e_isNot, e_ixT, e_ixS, e_ixD, e_inD, e_fLenS, e_fLenT, e_fMax2, e_fMin2, e_fAbs, e_fIntI, e_fIntB, e_fBoolI, e_fBoolB, e_mExcF, e_tryNil, e_tryCons, e_mBM, e_mEqO, e_mNeO, e_fLenO, e_fBoolO, e_mtTO, e_mInO, e_mNotInO, e_mGetO, e_mSortedSet, e_mLstRg1, e_mDic1, e_mDic0, e_miRange3, e_mtYes, putD, List.getElem?_cons_zero, List.getElem?_cons_succ, List.set_cons_zero, List.set_cons_succ, List.map_cons, List.map_nil, List.length_cons, List.length_nil, List.cons_append, List.nil_append, List.append_nil, List.replicate, Nat.reduceAdd, Nat.reduceSub, Nat.reduceLeDiff, Nat.zero_add, true_and, and_true, reduceIte, Bool.false_eq_true, Bool.true_eq_false, Bool.not_true, Bool.not_false, w_mLst, w_mMake, w_miLst, w_gmUnl, w_mComp, w_mComp2, compL_nil, w_compL, w_mSetF, w_addRR]
  refine ins_ok w m ?_
  simp only [fl_period]
  exact hq
end
end Lw

namespace Lw
open PySem PySem.Spec PyProof.Rows L2

/-! ### the least period, plainly -/
theorem sorted_ext : ∀ {a b : List Int}, a.Pairwise (· < ·) → b.Pairwise (· < ·) → (∀ x, x ∈ a ↔ x ∈ b) → a = b
  | [], [], _, _, _ => rfl
  | [], y :: b, _, _, h => absurd ((h y).mpr List.mem_cons_self) (by simp)
  | x :: a, [], _, _, h => absurd ((h x).mp List.mem_cons_self) (by simp)
  | x :: a, y :: b, ha, hb, h => by
    obtain ⟨h1, h2⟩ := List.pairwise_cons.mp ha
    obtain ⟨h3, h4⟩ := List.pairwise_cons.mp hb
    have e : x = y := by
      have m1 := (h x).mp List.mem_cons_self
      have m2 := (h y).mpr List.mem_cons_self
      rcases List.mem_cons.mp m1 with e | m1
      · exact e
      · rcases List.mem_cons.mp m2 with e | m2
        · exact e.symm
        · have := h3 x m1
          have := h1 y m2
          omega
    subst e
    rw [sorted_ext h2 h4 fun z => ?_]
    constructor
    · intro m
      rcases List.mem_cons.mp ((h z).mp (List.mem_cons_of_mem _ m)) with e | m'
      · have := h1 z m; omega
      · exact m'
    · intro m
      rcases List.mem_cons.mp ((h z).mpr (List.mem_cons_of_mem _ m)) with e | m'
      · have := h3 z m; omega
      · exact m'
/-- t may be added -/
def Per (gs : List Int) (q t : Int) : Prop := ∀ m, 0 ≤ m → (m % q ∈ gs ↔ (m + t) % q ∈ gs)
theorem Per.iter {gs : List Int} {q t : Int} (h : Per gs q t) (ht : 0 < t) {m : Int} (hm : 0 ≤ m) : ∀ a : Nat, m % q ∈ gs ↔ (m + a * t) % q ∈ gs
  | 0 => by simp
  | a + 1 => by
    have nn : 0 ≤ (a : Int) * t := Int.mul_nonneg (by omega) (by omega)
    rw [h.iter ht hm a, h (m + a * t) (by omega), show m + (a : Int) * t + t = m + ((a + 1 : Nat) : Int) * t from by push_cast; rw [Int.add_mul, Int.one_mul]; omega]
theorem rep_of_per {fs : List Int} {p t : Int} {k : Nat} (h : MOk fs p) (hp : 0 < p) (ht : 0 < t) (hk : (k : Int) * t = p) (per : Per fs p t) (hn : fs ≠ []) : Rep fs p k ∧ k ≤ fs.length := by
  have lt : ∀ x ∈ fs, 0 ≤ x ∧ x < p := fun x m => ⟨(h.ok x m).nn, by
    rcases (h.ok x m).lt with e | e
    · omega
    · exact e⟩
  have k0 : 0 < k := by
    by_cases e : k = 0
    · subst e; simp at hk; omega
    · omega
  generalize hf : (fs.filter fun x => decide (x < t)) = few
  have mf : ∀ x, x ∈ few ↔ x ∈ fs ∧ x < t := fun x => by rw [← hf, List.mem_filter, decide_eq_true_eq]
  have key : ∀ x, 0 ≤ x → x < p → (x ∈ fs ↔ x % t ∈ few) := fun x h0 h1 => by
    have e := Int.mul_ediv_add_emod x t
    have r0 := Int.emod_nonneg x (show t ≠ 0 by omega)
    have r1 := Int.emod_lt_of_pos x ht
    have a0 : 0 ≤ x / t := Int.ediv_nonneg h0 (by omega)
    have i := per.iter ht r0 (x / t).toNat
    rw [show (((x / t).toNat : Nat) : Int) = x / t from by omega, show x % t + x / t * t = x from by rw [Int.mul_comm]; omega, Int.emod_eq_of_lt h0 h1, Int.emod_eq_of_lt r0 (by
      have : 0 ≤ t * (x / t) := Int.mul_nonneg (by omega) a0
      omega)] at i
    rw [mf, ← i]
    exact ⟨fun z => ⟨z, r1⟩, fun z => z.1⟩
  have full : fs = (List.range k).flatMap fun a : Nat => few.map fun m => m + (a : Int) * t := by
    refine sorted_ext h.so ?_ fun x => ?_
    · rw [List.pairwise_flatMap]
      refine ⟨fun a _ => ?_, ?_⟩
      · rw [List.pairwise_map]
        have : few.Pairwise (· < ·) := by rw [← hf]; exact h.so.filter _
        exact this.imp fun hxy => by omega
      · refine List.pairwise_lt_range.imp fun {a b} hab x hx y hy => ?_
        obtain ⟨u, hu, rfl⟩ := List.mem_map.mp hx
        obtain ⟨v, hv, rfl⟩ := List.mem_map.mp hy
        have h1 := ((mf u).mp hu).2
        have h2 := (lt v ((mf v).mp hv).1).1
        have h3 : ((a + 1 : Nat) : Int) * t ≤ (b : Int) * t := Int.mul_le_mul_of_nonneg_right (by omega) (by omega)
        have h4 : ((a + 1 : Nat) : Int) * t = a * t + t := by push_cast; rw [Int.add_mul, Int.one_mul]
        omega
    · constructor
      · intro m
        obtain ⟨x0, x1⟩ := lt x m
        have e := Int.mul_ediv_add_emod x t
        have a0 : 0 ≤ x / t := Int.ediv_nonneg x0 (by omega)
        have a1 : x / t < k := by
          refine Int.lt_of_mul_lt_mul_right (a := t) ?_ (by omega)
          have r0 := Int.emod_nonneg x (show t ≠ 0 by omega)
          rw [hk, Int.mul_comm]; omega
        refine List.mem_flatMap.mpr ⟨(x / t).toNat, List.mem_range.mpr (by omega), List.mem_map.mpr ⟨x % t, (key x x0 x1).mp m, ?_⟩⟩
        rw [show (((x / t).toNat : Nat) : Int) = x / t from by omega, Int.mul_comm]
        omega
      · intro m
        obtain ⟨a, ha, hx⟩ := List.mem_flatMap.mp m
        obtain ⟨y, hy, rfl⟩ := List.mem_map.mp hx
        have ha := List.mem_range.mp ha
        obtain ⟨y1, y2⟩ := (mf y).mp hy
        have y0 := (lt y y1).1
        have nn : 0 ≤ (a : Int) * t := Int.mul_nonneg (by omega) (by omega)
        have h3 : ((a + 1 : Nat) : Int) * t ≤ (k : Int) * t := Int.mul_le_mul_of_nonneg_right (by omega) (by omega)
        have h4 : ((a + 1 : Nat) : Int) * t = a * t + t := by push_cast; rw [Int.add_mul, Int.one_mul]
        refine (key _ (by omega) (by omega)).mpr ?_
        rw [Int.add_mul_emod_self_right, Int.emod_eq_of_lt y0 y2]
        exact hy
  have len : fs.length = k * few.length := by
    rw [full]
    simp [List.length_flatMap, List.map_const', List.sum_replicate_nat]
  have d1 : fs.length / k = few.length := by rw [len]; exact Nat.mul_div_cancel_left _ k0
  have tk : fs.take (fs.length / k) = few := by
    rw [d1, full]
    obtain ⟨k', rfl⟩ : ∃ k', k = k' + 1 := ⟨k - 1, by omega⟩
    rw [List.range_succ_eq_map, List.flatMap_cons]
    have e : (few.map fun m => m + ((0 : Nat) : Int) * t) = few := by simp
    rw [e, List.take_left' rfl]
  have pk : p / (k : Int) = t := by rw [← hk]; exact Int.mul_ediv_cancel_left t (by omega)
  refine ⟨⟨k0, by rw [len]; exact Nat.mul_mod_right _ _, by rw [← hk]; exact Int.mul_emod_right _ _, ?_⟩, ?_⟩
  · unfold rep
    rw [tk, pk]
    exact full
  · have : 0 < few.length := by
      cases hfw : few with
      | nil =>
        rw [hfw] at len
        exact absurd (List.length_eq_zero_iff.mp (by simpa using len)) hn
      | cons => simp
    rw [len]
    exact Nat.le_mul_of_pos_right k this
theorem per_of_rep {fs : List Int} {p : Int} {k : Nat} (h : MOk fs p) (hp : 0 < p) (r : Rep fs p k) (hk : k ≤ fs.length) {m : Int} : m % p ∈ fs ↔ m % (p / k) ∈ fs.filter fun f => decide (f < p / k) := by
  have lt : ∀ x ∈ fs, 0 ≤ x ∧ x < p := fun x m => ⟨(h.ok x m).nn, by
    rcases (h.ok x m).lt with e | e
    · omega
    · exact e⟩
  have k0 := r.k0
  have e := Int.mul_ediv_add_emod p k
  rw [r.kp] at e
  generalize hq : p / (k : Int) = q at *
  have q0 : 0 < q := by
    by_cases z : 0 < q
    · exact z
    · have := Int.mul_le_mul_of_nonneg_left (show q ≤ 0 by omega) (show (0 : Int) ≤ k by omega)
      omega
  generalize hf : fs.take (fs.length / k) = few
  have full : ∀ x, x ∈ fs ↔ ∃ a : Nat, a < k ∧ ∃ y ∈ few, y + (a : Int) * q = x := fun x => by
    conv => lhs; rw [r.eq]
    unfold rep
    rw [hf, hq, List.mem_flatMap]
    simp only [List.mem_range, List.mem_map]
  have fl : ∀ y ∈ few, 0 ≤ y ∧ y < q := fun y hy => by
    have m1 : y ∈ fs := (full y).mpr ⟨0, k0, y, hy, by simp⟩
    have m2 : y + ((k - 1 : Nat) : Int) * q ∈ fs := (full _).mpr ⟨k - 1, by omega, y, hy, rfl⟩
    have h1 := (lt _ m2).2
    have e2 : ((k - 1 : Nat) : Int) * q = k * q - q := by
      rw [show ((k - 1 : Nat) : Int) = k - 1 from by omega, Int.sub_mul, Int.one_mul]
    exact ⟨(lt y m1).1, by omega⟩
  have mq : ∀ y, y ∈ few ↔ y ∈ fs ∧ y < q := fun y => by
    constructor
    · intro hy
      exact ⟨(full y).mpr ⟨0, k0, y, hy, by simp⟩, (fl y hy).2⟩
    · rintro ⟨hy, hl⟩
      obtain ⟨a, ha, z, hz, rfl⟩ := (full y).mp hy
      have z0 := (fl z hz).1
      by_cases a0 : a = 0
      · subst a0; simpa using hz
      · have := Int.mul_le_mul_of_nonneg_right (show (1 : Int) ≤ a by omega) (show 0 ≤ q by omega)
        omega
  have m0 := Int.emod_nonneg m (show p ≠ 0 by omega)
  have m1 := Int.emod_lt_of_pos m hp
  have s0 := Int.emod_nonneg m (show q ≠ 0 by omega)
  have s1 := Int.emod_lt_of_pos m q0
  rw [List.mem_filter, decide_eq_true_eq, ← mq]
  have em : m % p % q = m % q := Int.emod_emod_of_dvd m ⟨k, by rw [Int.mul_comm]; omega⟩
  rw [← em]
  generalize m % p = x at *
  constructor
  · intro hx
    obtain ⟨a, ha, z, hz, rfl⟩ := (full x).mp hx
    obtain ⟨z0, z1⟩ := fl z hz
    rw [Int.add_mul_emod_self_right, Int.emod_eq_of_lt z0 z1]
    exact hz
  · intro hx
    have ex := Int.mul_ediv_add_emod x q
    have a0 : 0 ≤ x / q := Int.ediv_nonneg m0 (by omega)
    have a1 : x / q < k := by
      refine Int.lt_of_mul_lt_mul_right (a := q) ?_ (by omega)
      have r0 := Int.emod_nonneg x (show q ≠ 0 by omega)
      rw [Int.mul_comm]; omega
    refine (full x).mpr ⟨(x / q).toNat, by omega, x % q, hx, ?_⟩
    rw [show (((x / q).toNat : Nat) : Int) = x / q from by omega, Int.mul_comm]
    omega
theorem add_mod_self {m q : Int} : (m + q) % q = m % q := by
  have := Int.add_mul_emod_self_right m 1 q
  rwa [Int.one_mul] at this
/-- as Moments keeps them -/
structure Can (gs : List Int) (q : Int) : Prop extends MOk gs q where
  ne : gs = [] → q = 0
  least : ∀ t, 0 < t → t < q → t ∣ q → ¬ Per gs q t
/-- all periods of a set have a common divisor that is one -/
theorem per_sub {gs : List Int} {q a b : Int} (ha : Per gs q a) (hb : Per gs q b) (h : 0 < a) (hab : a < b) : Per gs q (b - a) := fun m hm => by
  rw [hb m hm, ha (m + (b - a)) (by omega), show m + (b - a) + a = m + b from by omega]
theorem per_gcd {gs : List Int} {q : Int} : ∀ (n : Nat) (a b : Int), a + b ≤ n → 0 < a → 0 < b → Per gs q a → Per gs q b → ∃ t, 0 < t ∧ t ∣ a ∧ t ∣ b ∧ Per gs q t
  | 0, a, b, h, _, _, _, _ => by omega
  | n + 1, a, b, h, a0, b0, pa, pb => by
    by_cases e : a = b
    · subst e
      exact ⟨a, a0, Int.dvd_refl a, Int.dvd_refl a, pa⟩
    · by_cases l : a < b
      · obtain ⟨t, t0, d1, d2, p⟩ := per_gcd n a (b - a) (by omega) a0 (by omega) pa (per_sub pa pb a0 l)
        exact ⟨t, t0, d1, by have := Int.dvd_add d1 d2; rwa [show a + (b - a) = b from by omega] at this, p⟩
      · obtain ⟨t, t0, d1, d2, p⟩ := per_gcd n (a - b) b (by omega) (by omega) b0 (per_sub pb pa b0 (by omega)) pb
        exact ⟨t, t0, by have := Int.dvd_add d1 d2; rwa [show a - b + b = a from by omega] at this, d2, p⟩
theorem bnd : ∀ gs : List Int, ∃ M : Int, 0 ≤ M ∧ ∀ g ∈ gs, g ≤ M
  | [] => ⟨0, Int.le_refl _, fun g m => by cases m⟩
  | g :: gs => by
    obtain ⟨M, h0, h⟩ := bnd gs
    by_cases l : g ≤ M
    · exact ⟨M, h0, fun x m => by
        rcases List.mem_cons.mp m with e | m
        · omega
        · exact h x m⟩
    · exact ⟨g, by omega, fun x m => by
        rcases List.mem_cons.mp m with e | m
        · omega
        · have := h x m; omega⟩
theorem self_per {gs : List Int} {q : Int} : Per gs q q := fun m _ => by rw [add_mod_self]
theorem Can.fin {gs gs' : List Int} {q : Int} (h : Can gs 0) (h' : Can gs' q) (hs : ∀ m, 0 ≤ m → (m % 0 ∈ gs ↔ m % q ∈ gs')) : q = 0 := by
  by_cases z : q = 0
  · exact z
  · exfalso
    have q0 := h'.q0
    cases hg : gs' with
    | nil => exact z (h'.ne hg)
    | cons g r =>
      have m : g ∈ gs' := by rw [hg]; exact List.mem_cons_self
      obtain ⟨g0, gl⟩ := h'.ok g m
      have gl : g < q := by
        rcases gl with e | e
        · exact absurd e z
        · exact e
      obtain ⟨M, M0, hM⟩ := bnd gs
      have nn : (M + 1) * 1 ≤ (M + 1) * q := Int.mul_le_mul_of_nonneg_left (by omega) (by omega)
      have key := (hs (g + (M + 1) * q) (by omega)).mpr (by rw [Int.add_mul_emod_self_right, Int.emod_eq_of_lt g0 gl]; exact m)
      rw [Int.emod_zero] at key
      have := hM _ key
      omega
theorem Can.uniq {gs gs' : List Int} {q q' : Int} (h : Can gs q) (h' : Can gs' q') (hs : ∀ m, 0 ≤ m → (m % q ∈ gs ↔ m % q' ∈ gs')) : gs = gs' ∧ q = q' := by
  have eq : q = q' := by
    by_cases z : q = 0
    · subst z
      exact (h.fin h' hs).symm
    · by_cases z' : q' = 0
      · subst z'
        exact h'.fin h fun m hm => (hs m hm).symm
      · have q0 := h.q0
        have q0' := h'.q0
        have p1 : Per gs q q' := fun m hm => by
          rw [hs m hm, hs (m + q') (by omega), add_mod_self]
        obtain ⟨t, t0, d1, d2, p⟩ := per_gcd (q + q').toNat q q' (by omega) (by omega) (by omega) self_per p1
        have p' : Per gs' q' t := fun m hm => by
          rw [← hs m hm, ← hs (m + t) (by omega)]
          exact p m hm
        have l1 := Int.le_of_dvd (by omega) d1
        have l2 := Int.le_of_dvd (by omega) d2
        have e1 : t = q := by
          by_cases l : t < q
          · exact absurd p (h.least t t0 l d1)
          · omega
        have e2 : t = q' := by
          by_cases l : t < q'
          · exact absurd p' (h'.least t t0 l d2)
          · omega
        omega
  subst eq
  refine ⟨sorted_ext h.so h'.so fun x => ?_, rfl⟩
  have one : ∀ {gs : List Int}, MOk gs q → x ∈ gs → 0 ≤ x ∧ x % q = x := fun {gs} hh m => by
    obtain ⟨x0, xl⟩ := hh.ok x m
    refine ⟨x0, ?_⟩
    rcases xl with e | e
    · rw [e, Int.emod_zero]
    · exact Int.emod_eq_of_lt x0 e
  constructor
  · intro m
    obtain ⟨x0, e⟩ := one h.toMOk m
    have := (hs x x0).mp (by rw [e]; exact m)
    rwa [e] at this
  · intro m
    obtain ⟨x0, e⟩ := one h'.toMOk m
    have := (hs x x0).mpr (by rw [e]; exact m)
    rwa [e] at this
/-- what Moments(fs, p) stores is canonical, and the same set -/
theorem Mk.can {fs gs : List Int} {p q : Int} (h : Mk fs p gs q) (hp : 0 ≤ p) (h0 : ∀ f ∈ fs, 0 ≤ f) (so : fs.Pairwise (· < ·)) (hlt : p = 0 ∨ ∀ f ∈ fs, f < p) :
    Can gs q ∧ ∀ m, m % q ∈ gs ↔ m % p ∈ fs := by
  obtain ⟨ok, e1, e2, e3, e4⟩ := h.ok hp h0 so hlt
  rcases h with ⟨rfl, rfl, rfl⟩ | ⟨hn, rfl, rfl, rfl⟩ | ⟨hn, hp1, k, hk, r, hno, rfl, rfl⟩
  · exact ⟨⟨ok, fun _ => rfl, fun t t0 t1 => by omega⟩, fun m => by simp⟩
  · exact ⟨⟨ok, fun z => absurd z hn, fun t t0 t1 => by omega⟩, fun m => Iff.rfl⟩
  · have lt : ∀ f ∈ fs, f < p := by
      rcases hlt with h | h
      · omega
      · exact h
    have okf : MOk fs p := ⟨hp, fun g m => ⟨h0 g m, .inr (lt g m)⟩, so⟩
    have hs : ∀ m, m % (p / k) ∈ (fs.filter fun f => decide (f < p / k)) ↔ m % p ∈ fs := fun m => (per_of_rep okf hp1 r hk).symm
    have kp := r.k0
    have e := Int.mul_ediv_add_emod p k
    rw [r.kp] at e
    refine ⟨⟨ok, fun z => absurd (e1.mp z) hn, fun t t0 t1 hd per => ?_⟩, hs⟩
    obtain ⟨c, hc⟩ := hd
    have c0 : 0 < c := by
      by_cases z : 0 < c
      · exact z
      · have := Int.mul_le_mul_of_nonneg_left (show c ≤ 0 by omega) (show 0 ≤ t by omega)
        omega
    have c1 : 1 < c := by
      by_cases z : c = 1
      · subst z; omega
      · omega
    have k2 : (((k : Int) * c).toNat : Int) = k * c := Int.toNat_of_nonneg (Int.mul_nonneg (by omega) (by omega))
    have pt : (((k : Int) * c).toNat : Int) * t = p := by
      rw [k2, Int.mul_assoc, Int.mul_comm c t, ← hc]
      omega
    obtain ⟨rr, rl⟩ := rep_of_per okf hp1 t0 pt (fun m hm => by rw [← hs m, ← hs (m + t)]; exact per m hm) hn
    refine hno _ ?_ rl rr
    have := Int.mul_lt_mul_of_pos_left c1 (show (0 : Int) < k by omega)
    omega
end Lw

namespace Lw
open PySem PySem.Spec PyProof.Rows L2

/-! ### Moments refused; Moments of a tuple -/
def okI : D → Bool
  | .int i => decide (0 ≤ i)
  | _ => false
section
variable {n : Nat} {B : Sto} {L L' : List (Nat × O)} {S S0 S' : Sto} {j j2 j3 i f : Nat} {o : O} {ds xs : List D} {d e : D} {q : QD} {x : QX} {t p per k v a b pc m : Int} {K : QD} {md : MEnds} {fs gs hs fl cs : List Int} {c0 c1 c2 c3 c4 c5 c6 c7 : Option D} {z : Str}
theorem mNe_int' {i j : Int} : mNe (.int i) (.int j) S q = q (.bl (!(i == j))) S := propext mNe_int
theorem isTT : (isB "list" "tuple" || isB "tuple" "tuple") = true := by decide +kernel
/-- an item is asked -/
theorem item_w {C : D → Sto → Prop} (o : Okt S d) (h : C (.bl (okI d)) S) : (mAnd (mCall u_is_integer [] (maCons (mVar 1) maNil)) (mOp mGe (mVar 1) (mC (.int (0))))) [c0, some d, c2, c3] S C x := by
  simp only [e_mNext, e_mSeq, e_mExpr, e_mRet, e_mRetN, e_mIfS, e_mBreak, e_mCont, e_mAsg, e_mPar, e_gmName, e_gmNil, e_gmCons, e_gmTup, e_gmSub, e_mVar, e_mC, e_mOp, e_mtB, e_mtT, e_mtNot, e_mtAnd, e_mtOr, e_mAnd, e_mOr, e_mAndT, e_mOrT, e_mIf, e_mNotB, e_mChain, e_maNil, e_maCons, e_mTup, e_mCall, e_mFld, e_mProp, e_mMeth, e_mUnO, e_mBinO, e_mCallO, e_mCMeth, e_mRaise, e_mTry, e_mFn, e_mNeg, e_mIsiB, e_mIsiO, e_mFor, e_miRange1, e_miRange2, e_miRangeW, e_miZip, e_zpT, e_mIsi2, e_miAny, e_seqT, e_powW, e_mAug, e_addI, e_fTupleT, e_mSl00, e_mSl01, e_mSl10, e_mSl11, e_miTup, e_body, e_addII, e_addIB, e_addSS, e_addTT, e_subII, e_mulII, e_fdivII, e_modII, e_powII, e_ltII, e_leII, e_gtII, e_geII, e_is, e_isNot, e_ixT, e_ixS, e_ixD, e_inD, e_fLenS, e_fLenT, e_fMax2, e_fMin2, e_fAbs, e_fIntI, e_fIntB, e_fBoolI, e_fBoolB, e_mExcF, e_tryNil, e_tryCons, e_mBM, e_mEqO, e_mNeO, e_fLenO, e_fBoolO, e_mtTO, e_mInO, e_mNotInO, e_mGetO, e_mSortedSet, e_mLstRg1, e_mDic1, e_mDic0, e_miRange3, e_mtYes, putD, List.getElem?_cons_zero, List.getElem?_cons_succ, List.set_cons_zero, List.set_cons_succ, List.map_cons, List.map_nil, List.length_cons, List.length_nil, List.cons_append, List.nil_append, List.append_nil, List.replicate, Nat.reduceAdd, Nat.reduceSub, Nat.reduceLeDiff, Nat.zero_add, true_and, and_true, reduceIte, Bool.false_eq_true, Bool.true_eq_false, Bool.not_true, Bool.not_false, w_mLst, w_mMake, w_miLst, w_gmUnl, w_mComp, w_mComp2, compL_nil, w_compL, w_mSetF, w_addRR]
  refine is_integer_ok o ?_
  cases hd : isIntD d with
  | true =>
    obtain ⟨i, rfl⟩ := isInt_is hd
    simp only [e_mNext, e_mSeq, e_mExpr, e_mRet, e_mRetN, e_mIfS, e_mBreak, e_mCont, e_mAsg, e_mPar, e_gmName, e_gmNil, e_gmCons, e_gmTup, e_gmSub, e_mVar, e_mC, e_mOp, e_mtB, e_mtT, e_mtNot, e_mtAnd, e_mtOr, e_mAnd, e_mOr, e_mAndT, e_mOrT, e_mIf, e_mNotB, e_mChain, e_maNil, e_maCons, e_mTup, e_mCall, e_mFld, e_mProp, e_mMeth, e_mUnO, e_mBinO, e_mCallO, e_mCMeth, e_mRaise, e_mTry, e_mFn, e_mNeg, e_mIsiB, e_mIsiO, e_mFor, e_miRange1, e_miRange2, e_miRangeW, e_miZip, e_zpT, e_mIsi2, e_miAny, e_seqT, e_powW, e_mAug, e_addI, e_fTupleT, e_mSl00, e_mSl01, e_mSl10, e_mSl11, e_miTup, e_body, e_addII, e_addIB, e_addSS, e_addTT, e_subII, e_mulII, e_fdivII, e_modII, e_powII, e_ltII, e_leII, e_gtII, e_geII, e_is, e_isNot, e_ixT, e_ixS, e_ixD, e_inD, e_fLenS, e_fLenT, e_fMax2, e_fMin2, e_fAbs, e_fIntI, e_fIntB, e_fBoolI, e_fBoolB, e_mExcF, e_tryNil, e_tryCons, e_mBM, e_mEqO, e_mNeO, e_fLenO, e_fBoolO, e_mtTO, e_mInO, e_mNotInO, e_mGetO, e_mSortedSet, e_mLstRg1, e_mDic1, e_mDic0, e_miRange3, e_mtYes, putD, List.getElem?_cons_zero, List.getElem?_cons_succ, List.set_cons_zero, List.set_cons_succ, List.map_cons, List.map_nil, List.length_cons, List.length_nil, List.cons_append, List.nil_append, List.append_nil, List.replicate, Nat.reduceAdd, Nat.reduceSub, Nat.reduceLeDiff, Nat.zero_add, true_and, and_true, reduceIte, Bool.false_eq_true, Bool.true_eq_false, Bool.not_true, Bool.not_false, w_mLst, w_mMake, w_miLst, w_gmUnl, w_mComp, w_mComp2, compL_nil, w_compL, w_mSetF, w_addRR]
    exact h
  | false =>
    have e : okI d = false := by
      cases d with
      | int i => cases hd
      | _ => rfl
    rw [e] at h
    simpa using h
theorem af_lst (w : W n B L S) (m : (i, .lst ds) ∈ L) (ho : ∀ d ∈ ds, Okt S d) (h : 2000 < ds.length ∨ ds.all okI = false) (hq : ∀ S', W n B L S' → q (.bl false) S') : u_are_firsts [.ref i] S q x := by
  rw [e_u_are_firsts, e_b_are_firsts, e_b_are_firsts_1]
  simp only [e_mNext, e_mSeq, e_mExpr, e_mRet, e_mRetN, e_mIfS, e_mBreak, e_mCont, e_mAsg, e_mPar, e_gmName, e_gmNil, e_gmCons, e_gmTup, e_gmSub, e_mVar, e_mC, e_mOp, e_mtB, e_mtT, e_mtNot, e_mtAnd, e_mtOr, e_mAnd, e_mOr, e_mAndT, e_mOrT, e_mIf, e_mNotB, e_mChain, e_maNil, e_maCons, e_mTup, e_mCall, e_mFld, e_mProp, e_mMeth, e_mUnO, e_mBinO, e_mCallO, e_mCMeth, e_mRaise, e_mTry, e_mFn, e_mNeg, e_mIsiB, e_mIsiO, e_mFor, e_miRange1, e_miRange2, e_miRangeW, e_miZip, e_zpT, e_mIsi2, e_miAny, e_seqT, e_powW, e_mAug, e_addI, e_fTupleT, e_mSl00, e_mSl01, e_mSl10, e_mSl11, e_miTup, e_body, e_addII, e_addIB, e_addSS, e_addTT, e_subII, e_mulII, e_fdivII, e_modII, e_powII, e_ltII, e_leII, e_gtII, e_geII, e_is, e_isNot, e_ixT, e_ixS, e_ixD, e_inD, e_fLenS, e_fLenT, e_fMax2, e_fMin2, e_fAbs, e_fIntI, e_fIntB, e_fBoolI, e_fBoolB, e_mExcF, e_tryNil, e_tryCons, e_mBM, e_mEqO, e_mNeO, e_fLenO, e_fBoolO, e_mtTO, e_mInO, e_mNotInO, e_mGetO, e_mSortedSet, e_mLstRg1, e_mDic1, e_mDic0, e_miRange3, e_mtYes, putD, List.getElem?_cons_zero, List.getElem?_cons_succ, List.set_cons_zero, List.set_cons_succ, List.map_cons, List.map_nil, List.length_cons, List.length_nil, List.cons_append, List.nil_append, List.append_nil, List.replicate, Nat.reduceAdd, Nat.reduceSub, Nat.reduceLeDiff, Nat.zero_add, true_and, and_true, reduceIte, Bool.false_eq_true, Bool.true_eq_false, Bool.not_true, Bool.not_false, w_mLst, w_mMake, w_miLst, w_gmUnl, w_mComp, w_mComp2, compL_nil, w_compL, w_mSetF, w_addRR, ty_lst (w.get m), isLT]
  refine len_ok w m ?_
  by_cases hl : 2000 < ds.length
  · have e1 : decide ((2000 : Int) < (ds.length : Int)) = true := decide_eq_true (by omega)
    simp only [e_mNext, e_mSeq, e_mExpr, e_mRet, e_mRetN, e_mIfS, e_mBreak, e_mCont, e_mAsg, e_mPar, e_gmName, e_gmNil, e_gmCons, e_gmTup, e_gmSub, e_mVar, e_mC, e_mOp, e_mtB, e_mtT, e_mtNot, e_mtAnd, e_mtOr, e_mAnd, e_mOr, e_mAndT, e_mOrT, e_mIf, e_mNotB, e_mChain, e_maNil, e_maCons, e_mTup, e_mCall, e_mFld, e_mProp, e_mMeth, e_mUnO, e_mBinO, e_mCallO, e_mCMeth, e_mRaise, e_mTry, e_mFn, e_mNeg, e_mIsiB, e_mIsiO, e_mFor, e_miRange1, e_miRange2, e_miRangeW, e_miZip, e_zpT, e_mIsi2, e_miAny, e_seqT, e_powW, e_mAug, e_addI, e_fTupleT, e_mSl00, e_mSl01, e_mSl10, e_mSl11, e_miTup, e_body, e_addII, e_addIB, e_addSS, e_addTT, e_subII, e_mulII, e_fdivII, e_modII, e_powII, e_ltII, e_leII, e_gtII, e_geII, e_is, e_isNot, e_ixT, e_ixS, e_ixD, e_inD, e_fLenS, e_fLenT, e_fMax2, e_fMin2, e_fAbs, e_fIntI, e_fIntB, e_fBoolI, e_fBoolB, e_mExcF, e_tryNil, e_tryCons, e_mBM, e_mEqO, e_mNeO, e_fLenO, e_fBoolO, e_mtTO, e_mInO, e_mNotInO, e_mGetO, e_mSortedSet, e_mLstRg1, e_mDic1, e_mDic0, e_miRange3, e_mtYes, putD, List.getElem?_cons_zero, List.getElem?_cons_succ, List.set_cons_zero, List.set_cons_succ, List.map_cons, List.map_nil, List.length_cons, List.length_nil, List.cons_append, List.nil_append, List.append_nil, List.replicate, Nat.reduceAdd, Nat.reduceSub, Nat.reduceLeDiff, Nat.zero_add, true_and, and_true, reduceIte, Bool.false_eq_true, Bool.true_eq_false, Bool.not_true, Bool.not_false, w_mLst, w_mMake, w_miLst, w_gmUnl, w_mComp, w_mComp2, compL_nil, w_compL, w_mSetF, w_addRR, e1]
    exact hq _ w
  · have e1 : decide ((2000 : Int) < (ds.length : Int)) = false := decide_eq_false (by omega)
    have h : ds.all okI = false := by
      rcases h with h | h
      · exact absurd h hl
      · exact h
    simp only [e_mNext, e_mSeq, e_mExpr, e_mRet, e_mRetN, e_mIfS, e_mBreak, e_mCont, e_mAsg, e_mPar, e_gmName, e_gmNil, e_gmCons, e_gmTup, e_gmSub, e_mVar, e_mC, e_mOp, e_mtB, e_mtT, e_mtNot, e_mtAnd, e_mtOr, e_mAnd, e_mOr, e_mAndT, e_mOrT, e_mIf, e_mNotB, e_mChain, e_maNil, e_maCons, e_mTup, e_mCall, e_mFld, e_mProp, e_mMeth, e_mUnO, e_mBinO, e_mCallO, e_mCMeth, e_mRaise, e_mTry, e_mFn, e_mNeg, e_mIsiB, e_mIsiO, e_mFor, e_miRange1, e_miRange2, e_miRangeW, e_miZip, e_zpT, e_mIsi2, e_miAny, e_seqT, e_powW, e_mAug, e_addI, e_fTupleT, e_mSl00, e_mSl01, e_mSl10, e_mSl11, e_miTup, e_body, e_addII, e_addIB, e_addSS, e_addTT, e_subII, e_mulII, e_fdivII, e_modII, e_powII, e_ltII, e_leII, e_gtII, e_geII, e_is, e_isNot, e_ixT, e_ixS, e_ixD, e_inD, e_fLenS, e_fLenT, e_fMax2, e_fMin2, e_fAbs, e_fIntI, e_fIntB, e_fBoolI, e_fBoolB, e_mExcF, e_tryNil, e_tryCons, e_mBM, e_mEqO, e_mNeO, e_fLenO, e_fBoolO, e_mtTO, e_mInO, e_mNotInO, e_mGetO, e_mSortedSet, e_mLstRg1, e_mDic1, e_mDic0, e_miRange3, e_mtYes, putD, List.getElem?_cons_zero, List.getElem?_cons_succ, List.set_cons_zero, List.set_cons_succ, List.map_cons, List.map_nil, List.length_cons, List.length_nil, List.cons_append, List.nil_append, List.append_nil, List.replicate, Nat.reduceAdd, Nat.reduceSub, Nat.reduceLeDiff, Nat.zero_add, true_and, and_true, reduceIte, Bool.false_eq_true, Bool.true_eq_false, Bool.not_true, Bool.not_false, w_mLst, w_mMake, w_miLst, w_gmUnl, w_mComp, w_mComp2, compL_nil, w_compL, w_mSetF, w_addRR, wipeD, e1]
    refine seq_w' w m ?_
    have em : ds = ds.map id := by simp
    dsimp only
    conv => arg 7; rw [em]
    refine compA id (fun d => some (D.bl (okI d))) (w.get m) ds [] (by simp; omega) (fun d hd acc C hl h => ?_) ?_
    · simp only [e_gmName, List.set_cons_succ, List.set_cons_zero, e_mtYes, reduceIte, id]
      exact item_w (ho d hd) ⟨hl, h⟩
    · rw [List.nil_append, map_some]
      intro j2 S2 e2 e3
      have w2 := w.new e2 e3
      refine all_w (bs := ds.map okI) w2 (by rw [List.map_map]; exact List.mem_cons_self) ?_
      have e4 : ((ds.map okI).all id) = ds.all okI := by simp [List.all_map, Function.comp_def]
      rw [e4, h]
      simp only [e_mNext, e_mSeq, e_mExpr, e_mRet, e_mRetN, e_mIfS, e_mBreak, e_mCont, e_mAsg, e_mPar, e_gmName, e_gmNil, e_gmCons, e_gmTup, e_gmSub, e_mVar, e_mC, e_mOp, e_mtB, e_mtT, e_mtNot, e_mtAnd, e_mtOr, e_mAnd, e_mOr, e_mAndT, e_mOrT, e_mIf, e_mNotB, e_mChain, e_maNil, e_maCons, e_mTup, e_mCall, e_mFld, e_mProp, e_mMeth, e_mUnO, e_mBinO, e_mCallO, e_mCMeth, e_mRaise, e_mTry, e_mFn, e_mNeg, e_mIsiB, e_mIsiO, e_mFor, e_miRange1, e_miRange2, e_miRangeW, e_miZip, e_zpT, e_mIsi2, e_miAny, e_seqT, e_powW, e_mAug, e_addI, e_fTupleT, e_mSl00, e_mSl01, e_mSl10, e_mSl11, e_miTup, e_body, e_addII, e_addIB, e_addSS, e_addTT, e_subII, e_mulII, e_fdivII, e_modII, e_powII, e_ltII, e_leII, e_gtII, e_geII, e_is, e_isNot, e_ixT, e_ixS, e_ixD, e_inD, e_fLenS, e_fLenT, e_fMax2, e_fMin2, e_fAbs, e_fIntI, e_fIntB, e_fBoolI, e_fBoolB, e_mExcF, e_tryNil, e_tryCons, e_mBM, e_mEqO, e_mNeO, e_fLenO, e_fBoolO, e_mtTO, e_mInO, e_mNotInO, e_mGetO, e_mSortedSet, e_mLstRg1, e_mDic1, e_mDic0, e_miRange3, e_mtYes, putD, List.getElem?_cons_zero, List.getElem?_cons_succ, List.set_cons_zero, List.set_cons_succ, List.map_cons, List.map_nil, List.length_cons, List.length_nil, List.cons_append, List.nil_append, List.append_nil, List.replicate, Nat.reduceAdd, Nat.reduceSub, Nat.reduceLeDiff, Nat.zero_add, true_and, and_true, reduceIte, Bool.false_eq_true, Bool.true_eq_false, Bool.not_true, Bool.not_false, w_mLst, w_mMake, w_miLst, w_gmUnl, w_mComp, w_mComp2, compL_nil, w_compL, w_mSetF, w_addRR]
      exact hq _ (w2.sub fun _ _ m => .tail _ m)
theorem af_tup (w : W n B L S) (ho : ∀ d ∈ ds, Okt S d) (hl : ds.length ≤ 2000) (h : ds.all okI = false) (hq : ∀ S', W n B L S' → q (.bl false) S') : u_are_firsts [.tup ds] S q x := by
  rw [e_u_are_firsts, e_b_are_firsts, e_b_are_firsts_1]
  simp only [e_mNext, e_mSeq, e_mExpr, e_mRet, e_mRetN, e_mIfS, e_mBreak, e_mCont, e_mAsg, e_mPar, e_gmName, e_gmNil, e_gmCons, e_gmTup, e_gmSub, e_mVar, e_mC, e_mOp, e_mtB, e_mtT, e_mtNot, e_mtAnd, e_mtOr, e_mAnd, e_mOr, e_mAndT, e_mOrT, e_mIf, e_mNotB, e_mChain, e_maNil, e_maCons, e_mTup, e_mCall, e_mFld, e_mProp, e_mMeth, e_mUnO, e_mBinO, e_mCallO, e_mCMeth, e_mRaise, e_mTry, e_mFn, e_mNeg, e_mIsiB, e_mIsiO, e_mFor, e_miRange1, e_miRange2, e_miRangeW, e_miZip, e_zpT, e_mIsi2, e_miAny, e_seqT, e_powW, e_mAug, e_addI, e_fTupleT, e_mSl00, e_mSl01, e_mSl10, e_mSl11, e_miTup, e_body, e_addII, e_addIB, e_addSS, e_addTT, e_subII, e_mulII, e_fdivII, e_modII, e_powII, e_ltII, e_leII, e_gtII, e_geII, e_is, e_isNot, e_ixT, e_ixS, e_ixD, e_inD, e_fLenS, e_fLenT, e_fMax2, e_fMin2, e_fAbs, e_fIntI, e_fIntB, e_fBoolI, e_fBoolB, e_mExcF, e_tryNil, e_tryCons, e_mBM, e_mEqO, e_mNeO, e_fLenO, e_fBoolO, e_mtTO, e_mInO, e_mNotInO, e_mGetO, e_mSortedSet, e_mLstRg1, e_mDic1, e_mDic0, e_miRange3, e_mtYes, putD, List.getElem?_cons_zero, List.getElem?_cons_succ, List.set_cons_zero, List.set_cons_succ, List.map_cons, List.map_nil, List.length_cons, List.length_nil, List.cons_append, List.nil_append, List.append_nil, List.replicate, Nat.reduceAdd, Nat.reduceSub, Nat.reduceLeDiff, Nat.zero_add, true_and, and_true, reduceIte, Bool.false_eq_true, Bool.true_eq_false, Bool.not_true, Bool.not_false, w_mLst, w_mMake, w_miLst, w_gmUnl, w_mComp, w_mComp2, compL_nil, w_compL, w_mSetF, w_addRR, show tyD S (.tup ds) = some (.b "tuple") from rfl, isTT]
  have e1 : decide ((2000 : Int) < (ds.length : Int)) = false := decide_eq_false (by omega)
  simp only [e_mNext, e_mSeq, e_mExpr, e_mRet, e_mRetN, e_mIfS, e_mBreak, e_mCont, e_mAsg, e_mPar, e_gmName, e_gmNil, e_gmCons, e_gmTup, e_gmSub, e_mVar, e_mC, e_mOp, e_mtB, e_mtT, e_mtNot, e_mtAnd, e_mtOr, e_mAnd, e_mOr, e_mAndT, e_mOrT, e_mIf, e_mNotB, e_mChain, e_maNil, e_maCons, e_mTup, e_mCall, e_mFld, e_mProp, e_mMeth, e_mUnO, e_mBinO, e_mCallO, e_mCMeth, e_mRaise, e_mTry, e_mFn, e_mNeg, e_mIsiB, e_mIsiO, e_mFor, e_miRange1, e_miRange2, e_miRangeW, e_miZip, e_zpT, e_mIsi2, e_miAny, e_seqT, e_powW, e_mAug, e_addI, e_fTupleT, e_mSl00, e_mSl01, e_mSl10, e_mSl11, e_miTup, e_body, e_addII, e_addIB, e_addSS, e_addTT, e_subII, e_mulII, e_fdivII, e_modII, e_powII, e_ltII, e_leII, e_gtII, e_geII, e_is, e_isNot, e_ixT, e_ixS, e_ixD, e_inD, e_fLenS, e_fLenT, e_fMax2, e_fMin2, e_fAbs, e_fIntI, e_fIntB, e_fBoolI, e_fBoolB, e_mExcF, e_tryNil, e_tryCons, e_mBM, e_mEqO, e_mNeO, e_fLenO, e_fBoolO, e_mtTO, e_mInO, e_mNotInO, e_mGetO, e_mSortedSet, e_mLstRg1, e_mDic1, e_mDic0, e_miRange3, e_mtYes, putD, List.getElem?_cons_zero, List.getElem?_cons_succ, List.set_cons_zero, List.set_cons_succ, List.map_cons, List.map_nil, List.length_cons, List.length_nil, List.cons_append, List.nil_append, List.append_nil, List.replicate, Nat.reduceAdd, Nat.reduceSub, Nat.reduceLeDiff, Nat.zero_add, true_and, and_true, reduceIte, Bool.false_eq_true, Bool.true_eq_false, Bool.not_true, Bool.not_false, w_mLst, w_mMake, w_miLst, w_gmUnl, w_mComp, w_mComp2, compL_nil, w_compL, w_mSetF, w_addRR, wipeD, e1]
  have em : ds = ds.map id := by simp
  conv => arg 7; rw [em]
  refine compA id (fun d => some (D.bl (okI d))) trivial ds [] (by simp; omega) (fun d hd acc C hl h => ?_) ?_
  · simp only [e_gmName, List.set_cons_succ, List.set_cons_zero, e_mtYes, reduceIte, id]
    exact item_w (ho d hd) ⟨hl, h⟩
  · rw [List.nil_append, map_some]
    intro j2 S2 e2 e3
    have w2 := w.new e2 e3
    refine all_w (bs := ds.map okI) w2 (by rw [List.map_map]; exact List.mem_cons_self) ?_
    have e4 : ((ds.map okI).all id) = ds.all okI := by simp [List.all_map, Function.comp_def]
    rw [e4, h]
    simp only [e_mNext, e_mSeq, e_mExpr, e_mRet, e_mRetN, e_mIfS, e_mBreak, e_mCont, e_mAsg, e_mPar, e_gmName, e_gmNil, e_gmCons, e_gmTup, e_gmSub, e_mVar, e_mC, e_mOp, e_mtB, e_mtT, e_mtNot, e_mtAnd, e_mtOr, e_mAnd, e_mOr, e_mAndT, e_mOrT, e_mIf, e_mNotB, e_mChain, e_maNil, e_maCons, e_mTup, e_mCall, e_mFld, e_mProp, e_mMeth, e_mUnO, e_mBinO, e_mCallO, e_mCMeth, e_mRaise, e_mTry, e_mFn, e_mNeg, e_mIsiB, e_mIsiO, e_mFor, e_miRange1, e_miRange2, e_miRangeW, e_miZip, e_zpT, e_mIsi2, e_miAny, e_seqT, e_powW, e_mAug, e_addI, e_fTupleT, e_mSl00, e_mSl01, e_mSl10, e_mSl11, e_miTup, e_body, e_addII, e_addIB, e_addSS, e_addTT, e_subII, e_mulII, e_fdivII, e_modII, e_powII, e_ltII, e_leII, e_gtII, e_geII, e_is, e_isNot, e_ixT, e_ixS, e_ixD, e_inD, e_fLenS, e_fLenT, e_fMax2, e_fMin2, e_fAbs, e_fIntI, e_fIntB, e_fBoolI, e_fBoolB, e_mExcF, e_tryNil, e_tryCons, e_mBM, e_mEqO, e_mNeO, e_fLenO, e_fBoolO, e_mtTO, e_mInO, e_mNotInO, e_mGetO, e_mSortedSet, e_mLstRg1, e_mDic1, e_mDic0, e_miRange3, e_mtYes, putD, List.getElem?_cons_zero, List.getElem?_cons_succ, List.set_cons_zero, List.set_cons_succ, List.map_cons, List.map_nil, List.length_cons, List.length_nil, List.cons_append, List.nil_append, List.append_nil, List.replicate, Nat.reduceAdd, Nat.reduceSub, Nat.reduceLeDiff, Nat.zero_add, true_and, and_true, reduceIte, Bool.false_eq_true, Bool.true_eq_false, Bool.not_true, Bool.not_false, w_mLst, w_mMake, w_miLst, w_gmUnl, w_mComp, w_mComp2, compL_nil, w_compL, w_mSetF, w_addRR]
    exact hq _ (w2.sub fun _ _ m => .tail _ m)
theorem af_no {s : String} (hd : tyD S d = some (.b s)) (h1 : s ≠ "list") (h2 : s ≠ "tuple") (hq : q (.bl false) S) : u_are_firsts [d] S q x := by
  rw [e_u_are_firsts, e_b_are_firsts, e_b_are_firsts_1]
  have e : (isB "list" s || isB "tuple" s) = false := by
    simp [isB, h1, h2]
  simp only [e_mNext, e_mSeq, e_mExpr, e_mRet, e_mRetN, e_mIfS, e_mBreak, e_mCont, e_mAsg, e_mPar, e_gmName, e_gmNil, e_gmCons, e_gmTup, e_gmSub, e_mVar, e_mC, e_mOp, e_mtB, e_mtT, e_mtNot, e_mtAnd, e_mtOr, e_mAnd, e_mOr, e_mAndT, e_mOrT, e_mIf, e_mNotB, e_mChain, e_maNil, e_maCons, e_mTup, e_mCall, e_mFld, e_mProp, e_mMeth, e_mUnO, e_mBinO, e_mCallO, e_mCMeth, e_mRaise, e_mTry, e_mFn, e_mNeg, e_mIsiB, e_mIsiO, e_mFor, e_miRange1, e_miRange2, e_miRangeW, e_miZip, e_zpT, e_mIsi2, e_miAny, e_seqT, e_powW, e_mAug, e_addI, e_fTupleT, e_mSl00, e_mSl01, e_mSl10, e_mSl11, e_miTup, e_body, e_addII, e_addIB, e_addSS, e_addTT, e_subII, e_mulII, e_fdivII, e_modII, e_powII, e_ltII, e_leII, e_gtII, e_geII, e_is, e_isNot, e_ixT, e_ixS, e_ixD, e_inD, e_fLenS, e_fLenT, e_fMax2, e_fMin2, e_fAbs, e_fIntI, e_fIntB, e_fBoolI, e_fBoolB, e_mExcF, e_tryNil, e_tryCons, e_mBM, e_mEqO, e_mNeO, e_fLenO, e_fBoolO, e_mtTO, e_mInO, e_mNotInO, e_mGetO, e_mSortedSet, e_mLstRg1, e_mDic1, e_mDic0, e_miRange3, e_mtYes, putD, List.getElem?_cons_zero, List.getElem?_cons_succ, List.set_cons_zero, List.set_cons_succ, List.map_cons, List.map_nil, List.length_cons, List.length_nil, List.cons_append, List.nil_append, List.append_nil, List.replicate, Nat.reduceAdd, Nat.reduceSub, Nat.reduceLeDiff, Nat.zero_add, true_and, and_true, reduceIte, Bool.false_eq_true, Bool.true_eq_false, Bool.not_true, Bool.not_false, w_mLst, w_mMake, w_miLst, w_gmUnl, w_mComp, w_mComp2, compL_nil, w_compL, w_mSetF, w_addRR, hd, e]
  exact hq
/-- of a tuple of ints -/
theorem afT_w (w : W n B L S) (hl : fs.length ≤ 2000) (hq : ∀ S', W n B L S' → q (.bl ((fs.all fun f => decide (0 ≤ f)) && asc fs)) S') : u_are_firsts [.tup (fs.map D.int)] S q x := by
  rw [e_u_are_firsts, e_b_are_firsts, e_b_are_firsts_1]
  simp only [e_mNext, e_mSeq, e_mExpr, e_mRet, e_mRetN, e_mIfS, e_mBreak, e_mCont, e_mAsg, e_mPar, e_gmName, e_gmNil, e_gmCons, e_gmTup, e_gmSub, e_mVar, e_mC, e_mOp, e_mtB, e_mtT, e_mtNot, e_mtAnd, e_mtOr, e_mAnd, e_mOr, e_mAndT, e_mOrT, e_mIf, e_mNotB, e_mChain, e_maNil, e_maCons, e_mTup, e_mCall, e_mFld, e_mProp, e_mMeth, e_mUnO, e_mBinO, e_mCallO, e_mCMeth, e_mRaise, e_mTry, e_mFn, e_mNeg, e_mIsiB, e_mIsiO, e_mFor, e_miRange1, e_miRange2, e_miRangeW, e_miZip, e_zpT, e_mIsi2, e_miAny, e_seqT, e_powW, e_mAug, e_addI, e_fTupleT, e_mSl00, e_mSl01, e_mSl10, e_mSl11, e_miTup, e_body, e_addII, e_addIB, e_addSS, e_addTT, e_subII, e_mulII, e_fdivII, e_modII, e_powII, e_ltII, e_leII, e_gtII, e_geII, e_is, e_isNot, e_ixT, e_ixS, e_ixD, e_inD, e_fLenS, e_fLenT, e_fMax2, e_fMin2, e_fAbs, e_fIntI, e_fIntB, e_fBoolI, e_fBoolB, e_mExcF, e_tryNil, e_tryCons, e_mBM, e_mEqO, e_mNeO, e_fLenO, e_fBoolO, e_mtTO, e_mInO, e_mNotInO, e_mGetO, e_mSortedSet, e_mLstRg1, e_mDic1, e_mDic0, e_miRange3, e_mtYes, putD, List.getElem?_cons_zero, List.getElem?_cons_succ, List.set_cons_zero, List.set_cons_succ, List.map_cons, List.map_nil, List.length_cons, List.length_nil, List.cons_append, List.nil_append, List.append_nil, List.replicate, Nat.reduceAdd, Nat.reduceSub, Nat.reduceLeDiff, Nat.zero_add, true_and, and_true, reduceIte, Bool.false_eq_true, Bool.true_eq_false, Bool.not_true, Bool.not_false, w_mLst, w_mMake, w_miLst, w_gmUnl, w_mComp, w_mComp2, compL_nil, w_compL, w_mSetF, w_addRR, show tyD S (.tup (fs.map D.int)) = some (.b "tuple") from rfl, isTT, List.length_map]
  have e1 : decide ((2000 : Int) < (fs.length : Int)) = false := decide_eq_false (by omega)
  simp only [e_mNext, e_mSeq, e_mExpr, e_mRet, e_mRetN, e_mIfS, e_mBreak, e_mCont, e_mAsg, e_mPar, e_gmName, e_gmNil, e_gmCons, e_gmTup, e_gmSub, e_mVar, e_mC, e_mOp, e_mtB, e_mtT, e_mtNot, e_mtAnd, e_mtOr, e_mAnd, e_mOr, e_mAndT, e_mOrT, e_mIf, e_mNotB, e_mChain, e_maNil, e_maCons, e_mTup, e_mCall, e_mFld, e_mProp, e_mMeth, e_mUnO, e_mBinO, e_mCallO, e_mCMeth, e_mRaise, e_mTry, e_mFn, e_mNeg, e_mIsiB, e_mIsiO, e_mFor, e_miRange1, e_miRange2, e_miRangeW, e_miZip, e_zpT, e_mIsi2, e_miAny, e_seqT, e_powW, e_mAug, e_addI, e_fTupleT, e_mSl00, e_mSl01, e_mSl10, e_mSl11, e_miTup, e_body, e_addII, e_addIB, e_addSS, e_addTT, e_subII, e_mulII, e_fdivII, e_modII, e_powII, e_ltII, e_leII, e_gtII, e_geII, e_is, e_isNot, e_ixT, e_ixS, e_ixD, e_inD, e_fLenS, e_fLenT, e_fMax2, e_fMin2, e_fAbs, e_fIntI, e_fIntB, e_fBoolI, e_fBoolB, e_mExcF, e_tryNil, e_tryCons, e_mBM, e_mEqO, e_mNeO, e_fLenO, e_fBoolO, e_mtTO, e_mInO, e_mNotInO, e_mGetO, e_mSortedSet, e_mLstRg1, e_mDic1, e_mDic0, e_miRange3, e_mtYes, putD, List.getElem?_cons_zero, List.getElem?_cons_succ, List.set_cons_zero, List.set_cons_succ, List.map_cons, List.map_nil, List.length_cons, List.length_nil, List.cons_append, List.nil_append, List.append_nil, List.replicate, Nat.reduceAdd, Nat.reduceSub, Nat.reduceLeDiff, Nat.zero_add, true_and, and_true, reduceIte, Bool.false_eq_true, Bool.true_eq_false, Bool.not_true, Bool.not_false, w_mLst, w_mMake, w_miLst, w_gmUnl, w_mComp, w_mComp2, compL_nil, w_compL, w_mSetF, w_addRR, wipeD, e1]
  refine compA D.int (fun v => some (D.bl (decide (0 ≤ v)))) trivial fs [] (by simp; omega) (fun v _ acc C hl h => ?_) ?_
  · simp only [e_mNext, e_mSeq, e_mExpr, e_mRet, e_mRetN, e_mIfS, e_mBreak, e_mCont, e_mAsg, e_mPar, e_gmName, e_gmNil, e_gmCons, e_gmTup, e_gmSub, e_mVar, e_mC, e_mOp, e_mtB, e_mtT, e_mtNot, e_mtAnd, e_mtOr, e_mAnd, e_mOr, e_mAndT, e_mOrT, e_mIf, e_mNotB, e_mChain, e_maNil, e_maCons, e_mTup, e_mCall, e_mFld, e_mProp, e_mMeth, e_mUnO, e_mBinO, e_mCallO, e_mCMeth, e_mRaise, e_mTry, e_mFn, e_mNeg, e_mIsiB, e_mIsiO, e_mFor, e_miRange1, e_miRange2, e_miRangeW, e_miZip, e_zpT, e_mIsi2, e_miAny, e_seqT, e_powW, e_mAug, e_addI, e_fTupleT, e_mSl00, e_mSl01, e_mSl10, e_mSl11, e_miTup, e_body, e_addII, e_addIB, e_addSS, e_addTT, e_subII, e_mulII, e_fdivII, e_modII, e_powII, e_ltII, e_leII, e_gtII, e_geII, e_is, e_isNot, e_ixT, e_ixS, e_ixD, e_inD, e_fLenS, e_fLenT, e_fMax2, e_fMin2, e_fAbs, e_fIntI, e_fIntB, e_fBoolI, e_fBoolB, e_mExcF, e_tryNil, e_tryCons, e_mBM, e_mEqO, e_mNeO, e_fLenO, e_fBoolO, e_mtTO, e_mInO, e_mNotInO, e_mGetO, e_mSortedSet, e_mLstRg1, e_mDic1, e_mDic0, e_miRange3, e_mtYes, putD, List.getElem?_cons_zero, List.getElem?_cons_succ, List.set_cons_zero, List.set_cons_succ, List.map_cons, List.map_nil, List.length_cons, List.length_nil, List.cons_append, List.nil_append, List.append_nil, List.replicate, Nat.reduceAdd, Nat.reduceSub, Nat.reduceLeDiff, Nat.zero_add, true_and, and_true, reduceIte, Bool.false_eq_true, Bool.true_eq_false, Bool.not_true, Bool.not_false, w_mLst, w_mMake, w_miLst, w_gmUnl, w_mComp, w_mComp2, compL_nil, w_compL, w_mSetF, w_addRR]
    refine is_integer_ok True.intro ?_
    simp only [e_mNext, e_mSeq, e_mExpr, e_mRet, e_mRetN, e_mIfS, e_mBreak, e_mCont, e_mAsg, e_mPar, e_gmName, e_gmNil, e_gmCons, e_gmTup, e_gmSub, e_mVar, e_mC, e_mOp, e_mtB, e_mtT, e_mtNot, e_mtAnd, e_mtOr, e_mAnd, e_mOr, e_mAndT, e_mOrT, e_mIf, e_mNotB, e_mChain, e_maNil, e_maCons, e_mTup, e_mCall, e_mFld, e_mProp, e_mMeth, e_mUnO, e_mBinO, e_mCallO, e_mCMeth, e_mRaise, e_mTry, e_mFn, e_mNeg, e_mIsiB, e_mIsiO, e_mFor, e_miRange1, e_miRange2, e_miRangeW, e_miZip, e_zpT, e_mIsi2, e_miAny, e_seqT, e_powW, e_mAug, e_addI, e_fTupleT, e_mSl00, e_mSl01, e_mSl10, e_mSl11, e_miTup, e_body, e_addII, e_addIB, e_addSS, e_addTT, e_subII, e_mulII, e_fdivII, e_modII, e_powII, e_ltII, e_leII, e_gtII, e_geII, e_is, e_isNot, e_ixT, e_ixS, e_ixD, e_inD, e_fLenS, e_fLenT, e_fMax2, e_fMin2, e_fAbs, e_fIntI, e_fIntB, e_fBoolI, e_fBoolB, e_mExcF, e_tryNil, e_tryCons, e_mBM, e_mEqO, e_mNeO, e_fLenO, e_fBoolO, e_mtTO, e_mInO, e_mNotInO, e_mGetO, e_mSortedSet, e_mLstRg1, e_mDic1, e_mDic0, e_miRange3, e_mtYes, putD, List.getElem?_cons_zero, List.getElem?_cons_succ, List.set_cons_zero, List.set_cons_succ, List.map_cons, List.map_nil, List.length_cons, List.length_nil, List.cons_append, List.nil_append, List.append_nil, List.replicate, Nat.reduceAdd, Nat.reduceSub, Nat.reduceLeDiff, Nat.zero_add, true_and, and_true, reduceIte, Bool.false_eq_true, Bool.true_eq_false, Bool.not_true, Bool.not_false, w_mLst, w_mMake, w_miLst, w_gmUnl, w_mComp, w_mComp2, compL_nil, w_compL, w_mSetF, w_addRR, show isIntD (.int v) = true from rfl]
    exact ⟨hl, h⟩
  · rw [List.nil_append, map_some]
    intro j2 S2 e2 e3
    have w0 := w
    replace w := w.new e2 e3
    refine all_w (bs := fs.map fun v => decide (0 ≤ v)) w (by rw [List.map_map]; exact List.mem_cons_self) ?_
    have e4 : ((fs.map fun v => decide (0 ≤ v)).all id) = fs.all fun f => decide (0 ≤ f) := by simp [List.all_map, Function.comp_def]
    rw [e4]
    cases e5 : fs.all fun f => decide (0 ≤ f) with
    | false =>
      simp only [Bool.not_false, reduceIte]
      rw [e5] at hq
      exact hq _ (w.sub fun _ _ m => .tail _ m)
    | true =>
      simp only [e_mNext, e_mSeq, e_mExpr, e_mRet, e_mRetN, e_mIfS, e_mBreak, e_mCont, e_mAsg, e_mPar, e_gmName, e_gmNil, e_gmCons, e_gmTup, e_gmSub, e_mVar, e_mC, e_mOp, e_mtB, e_mtT, e_mtNot, e_mtAnd, e_mtOr, e_mAnd, e_mOr, e_mAndT, e_mOrT, e_mIf, e_mNotB, e_mChain, e_maNil, e_maCons, e_mTup, e_mCall, e_mFld, e_mProp, e_mMeth, e_mUnO, e_mBinO, e_mCallO, e_mCMeth, e_mRaise, e_mTry, e_mFn, e_mNeg, e_mIsiB, e_mIsiO, e_mFor, e_miRange1, e_miRange2, e_miRangeW, e_miZip, e_zpT, e_mIsi2, e_miAny, e_seqT, e_powW, e_mAug, e_addI, e_fTupleT, e_mSl00, e_mSl01, e_mSl10, e_mSl11, e_miTup, e_body, e_addII, e_addIB, e_addSS, e_addTT, e_subII, e_mulII, e_fdivII, e_modII, e_powII, e_ltII, e_leII, e_gtII, e_geII, e_is, e_isNot, e_ixT, e_ixS, e_ixD, e_inD, e_fLenS, e_fLenT, e_fMax2, e_fMin2, e_fAbs, e_fIntI, e_fIntB, e_fBoolI, e_fBoolB, e_mExcF, e_tryNil, e_tryCons, e_mBM, e_mEqO, e_mNeO, e_fLenO, e_fBoolO, e_mtTO, e_mInO, e_mNotInO, e_mGetO, e_mSortedSet, e_mLstRg1, e_mDic1, e_mDic0, e_miRange3, e_mtYes, putD, List.getElem?_cons_zero, List.getElem?_cons_succ, List.set_cons_zero, List.set_cons_succ, List.map_cons, List.map_nil, List.length_cons, List.length_nil, List.cons_append, List.nil_append, List.append_nil, List.replicate, Nat.reduceAdd, Nat.reduceSub, Nat.reduceLeDiff, Nat.zero_add, true_and, and_true, reduceIte, Bool.false_eq_true, Bool.true_eq_false, Bool.not_true, Bool.not_false, w_mLst, w_mMake, w_miLst, w_gmUnl, w_mComp, w_mComp2, compL_nil, w_compL, w_mSetF, w_addRR]
      rw [e5, Bool.true_and] at hq
      simp only [slT_w, e_mNext, e_mSeq, e_mExpr, e_mRet, e_mRetN, e_mIfS, e_mBreak, e_mCont, e_mAsg, e_mPar, e_gmName, e_gmNil, e_gmCons, e_gmTup, e_gmSub, e_mVar, e_mC, e_mOp, e_mtB, e_mtT, e_mtNot, e_mtAnd, e_mtOr, e_mAnd, e_mOr, e_mAndT, e_mOrT, e_mIf, e_mNotB, e_mChain, e_maNil, e_maCons, e_mTup, e_mCall, e_mFld, e_mProp, e_mMeth, e_mUnO, e_mBinO, e_mCallO, e_mCMeth, e_mRaise, e_mTry, e_mFn, e_mNeg, e_mIsiB, e_mIsiO, e_mFor, e_miRange1, e_miRange2, e_miRangeW, e_miZip, e_zpT, e_mIsi2, e_miAny, e_seqT, e_powW, e_mAug, e_addI, e_fTupleT, e_mSl00, e_mSl01, e_mSl10, e_mSl11, e_miTup, e_body, e_addII, e_addIB, e_addSS, e_addTT, e_subII, e_mulII, e_fdivII, e_modII, e_powII, e_ltII, e_leII, e_gtII, e_geII, e_is, e_isNot, e_ixT, e_ixS, e_ixD, e_inD, e_fLenS, e_fLenT, e_fMax2, e_fMin2, e_fAbs, e_fIntI, e_fIntB, e_fBoolI, e_fBoolB, e_mExcF, e_tryNil, e_tryCons, e_mBM, e_mEqO, e_mNeO, e_fLenO, e_fBoolO, e_mtTO, e_mInO, e_mNotInO, e_mGetO, e_mSortedSet, e_mLstRg1, e_mDic1, e_mDic0, e_miRange3, e_mtYes, putD, List.getElem?_cons_zero, List.getElem?_cons_succ, List.set_cons_zero, List.set_cons_succ, List.map_cons, List.map_nil, List.length_cons, List.length_nil, List.cons_append, List.nil_append, List.append_nil, List.replicate, Nat.reduceAdd, Nat.reduceSub, Nat.reduceLeDiff, Nat.zero_add, true_and, and_true, reduceIte, Bool.false_eq_true, Bool.true_eq_false, Bool.not_true, Bool.not_false, w_mLst, w_mMake, w_miLst, w_gmUnl, w_mComp, w_mComp2, compL_nil, w_compL, w_mSetF, w_addRR]
      rw [cut1, ← List.map_drop]
      simp only [zipD_ints]
      refine compA (fun p : Int × Int => D.tup [.int p.1, .int p.2]) (fun p => some (D.bl (decide (p.1 < p.2)))) trivial (fs.zip (fs.drop 1)) [] (by simp; omega) (fun p _ acc C hl h => ?_) ?_
      · simp only [e_mNext, e_mSeq, e_mExpr, e_mRet, e_mRetN, e_mIfS, e_mBreak, e_mCont, e_mAsg, e_mPar, e_gmName, e_gmNil, e_gmCons, e_gmTup, e_gmSub, e_mVar, e_mC, e_mOp, e_mtB, e_mtT, e_mtNot, e_mtAnd, e_mtOr, e_mAnd, e_mOr, e_mAndT, e_mOrT, e_mIf, e_mNotB, e_mChain, e_maNil, e_maCons, e_mTup, e_mCall, e_mFld, e_mProp, e_mMeth, e_mUnO, e_mBinO, e_mCallO, e_mCMeth, e_mRaise, e_mTry, e_mFn, e_mNeg, e_mIsiB, e_mIsiO, e_mFor, e_miRange1, e_miRange2, e_miRangeW, e_miZip, e_zpT, e_mIsi2, e_miAny, e_seqT, e_powW, e_mAug, e_addI, e_fTupleT, e_mSl00, e_mSl01, e_mSl10, e_mSl11, e_miTup, e_body, e_addII, e_addIB, e_addSS, e_addTT, e_subII, e_mulII, e_fdivII, e_modII, e_powII, e_ltII, e_leII, e_gtII, e_geII, e_is, e_isNot, e_ixT, e_ixS, e_ixD, e_inD, e_fLenS, e_fLenT, e_fMax2, e_fMin2, e_fAbs, e_fIntI, e_fIntB, e_fBoolI, e_fBoolB, e_mExcF, e_tryNil, e_tryCons, e_mBM, e_mEqO, e_mNeO, e_fLenO, e_fBoolO, e_mtTO, e_mInO, e_mNotInO, e_mGetO, e_mSortedSet, e_mLstRg1, e_mDic1, e_mDic0, e_miRange3, e_mtYes, putD, List.getElem?_cons_zero, List.getElem?_cons_succ, List.set_cons_zero, List.set_cons_succ, List.map_cons, List.map_nil, List.length_cons, List.length_nil, List.cons_append, List.nil_append, List.append_nil, List.replicate, Nat.reduceAdd, Nat.reduceSub, Nat.reduceLeDiff, Nat.zero_add, true_and, and_true, reduceIte, Bool.false_eq_true, Bool.true_eq_false, Bool.not_true, Bool.not_false, w_mLst, w_mMake, w_miLst, w_gmUnl, w_mComp, w_mComp2, compL_nil, w_compL, w_mSetF, w_addRR]
        exact ⟨hl, h⟩
      · rw [List.nil_append, map_some]
        intro j4 S4 e6 e7
        replace w := w.new e6 e7
        refine all_w (bs := (fs.zip (fs.drop 1)).map fun p => decide (p.1 < p.2)) w (by rw [List.map_map]; exact List.mem_cons_self) ?_
        rw [zip_asc]
        exact hq _ (w.sub fun _ _ m => .tail _ (.tail _ m))
end
end Lw

namespace Lw
open PySem PySem.Spec PyProof.Rows L2

section
variable {n : Nat} {B : Sto} {L L' : List (Nat × O)} {S S0 S' : Sto} {j j2 i : Nat} {o : O} {ds xs : List D} {d e : D} {q : QD} {x : QX} {t p per : Int} {K : QD} {md : MEnds} {fs gs : List Int} {c3 : Option D} {z : Str}
theorem init4_t (w : W n S ((S.length, .ins "Moments" []) :: L) S') (hL : ∀ i u, (i, u) ∈ L → i ≠ S.length) (hl : fs.length ≤ 2000) (hp : 0 ≤ p)
    (hq : ∀ S' gs q' c3, Mk fs p gs q' → W n S ((S.length, mom gs q') :: L) S' → md.nx [some (.ref S.length), some (.tup (fs.map D.int)), some (.int p), c3] S') :
    b_Moments_init_4 md [some (.ref S.length), some (.tup (fs.map D.int)), some (.int p), c3] S' := by
  rw [e_b_Moments_init_4, e_b_Moments_init_3, e_b_Moments_init_2, e_b_Moments_init_1]
  simp only [e_mNext, e_mSeq, e_mExpr, e_mRet, e_mRetN, e_mIfS, e_mBreak, e_mCont, e_mAsg, e_mPar, e_gmName, e_gmNil, e_gmCons, e_gmTup, e_gmSub, e_mVar, e_mC, e_mOp, e_mtB, e_mtT, e_mtNot, e_mtAnd, e_mtOr, e_mAnd, e_mOr, e_mAndT, e_mOrT, e_mIf, e_mNotB, e_mChain, e_maNil, e_maCons, e_mTup, e_mCall, e_mFld, e_mProp, e_mMeth, e_mUnO, e_mBinO, e_mCallO, e_mCMeth, e_mRaise, e_mTry, e_mFn, e_mNeg, e_mIsiB, e_mIsiO, e_mFor, e_miRange1, e_miRange2, e_miRangeW, e_miZip, e_zpT, e_mIsi2, e_miAny, e_seqT, e_powW, e_mAug, e_addI, e_fTupleT, e_mSl00, e_mSl01, e_mSl10, e_mSl11, e_miTup, e_body, e_addII, e_addIB, e_addSS, e_addTT, e_subII, e_mulII, e_fdivII, e_modII, e_powII, e_ltII, e_leII, e_gtII, e_geII, e_is, e_isNot, e_ixT, e_ixS, e_ixD, e_inD, e_fLenS, e_fLenT, e_fMax2, e_fMin2, e_fAbs, e_fIntI, e_fIntB, e_fBoolI, e_fBoolB, e_mExcF, e_tryNil, e_tryCons, e_mBM, e_mEqO, e_mNeO, e_fLenO, e_fBoolO, e_mtTO, e_mInO, e_mNotInO, e_mGetO, e_mSortedSet, e_mLstRg1, e_mDic1, e_mDic0, e_miRange3, e_mtYes, putD, List.getElem?_cons_zero, List.getElem?_cons_succ, List.set_cons_zero, List.set_cons_succ, List.map_cons, List.map_nil, List.length_cons, List.length_nil, List.cons_append, List.nil_append, List.append_nil, List.replicate, Nat.reduceAdd, Nat.reduceSub, Nat.reduceLeDiff, Nat.zero_add, true_and, and_true, reduceIte, Bool.false_eq_true, Bool.true_eq_false, Bool.not_true, Bool.not_false, w_mLst, w_mMake, w_miLst, w_gmUnl, w_mComp, w_mComp2, compL_nil, w_compL, w_mSetF, w_addRR]
  refine set_ok w (Nat.le_refl _) hL (by simp) fun S1 w => ?_
  rw [put1] at w
  try simp only [e_mNext, e_mSeq, e_mExpr, e_mRet, e_mRetN, e_mIfS, e_mBreak, e_mCont, e_mAsg, e_mPar, e_gmName, e_gmNil, e_gmCons, e_gmTup, e_gmSub, e_mVar, e_mC, e_mOp, e_mtB, e_mtT, e_mtNot, e_mtAnd, e_mtOr, e_mAnd, e_mOr, e_mAndT, e_mOrT, e_mIf, e_mNotB, e_mChain, e_maNil, e_maCons, e_mTup, e_mCall, e_mFld, e_mProp, e_mMeth, e_mUnO, e_mBinO, e_mCallO, e_mCMeth, e_mRaise, e_mTry, e_mFn, e_mNeg, e_mIsiB, e_mIsiO, e_mFor, e_miRange1, e_miRange2, e_miRangeW, e_miZip, e_zpT, e_mIsi2, e_miAny, e_seqT, e_powW, e_mAug, e_addI, e_fTupleT, e_mSl00, e_mSl01, e_mSl10, e_mSl11, e_miTup, e_body, e_addII, e_addIB, e_addSS, e_addTT, e_subII, e_mulII, e_fdivII, e_modII, e_powII, e_ltII, e_leII, e_gtII, e_geII, e_is, e_isNot, e_ixT, e_ixS, e_ixD, e_inD, e_fLenS, e_fLenT, e_fMax2, e_fMin2, e_fAbs, e_fIntI, e_fIntB, e_fBoolI, e_fBoolB, e_mExcF, e_tryNil, e_tryCons, e_mBM, e_mEqO, e_mNeO, e_fLenO, e_fBoolO, e_mtTO, e_mInO, e_mNotInO, e_mGetO, e_mSortedSet, e_mLstRg1, e_mDic1, e_mDic0, e_miRange3, e_mtYes, putD, List.getElem?_cons_zero, List.getElem?_cons_succ, List.set_cons_zero, List.set_cons_succ, List.map_cons, List.map_nil, List.length_cons, List.length_nil, List.cons_append, List.nil_append, List.append_nil, List.replicate, Nat.reduceAdd, Nat.reduceSub, Nat.reduceLeDiff, Nat.zero_add, true_and, and_true, reduceIte, Bool.false_eq_true, Bool.true_eq_false, Bool.not_true, Bool.not_false, w_mLst, w_mMake, w_miLst, w_gmUnl, w_mComp, w_mComp2, compL_nil, w_compL, w_mSetF, w_addRR]
  try simp only [e_mNext, e_mSeq, e_mExpr, e_mRet, e_mRetN, e_mIfS, e_mBreak, e_mCont, e_mAsg, e_mPar, e_gmName, e_gmNil, e_gmCons, e_gmTup, e_gmSub, e_mVar, e_mC, e_mOp, e_mtB, e_mtT, e_mtNot, e_mtAnd, e_mtOr, e_mAnd, e_mOr, e_mAndT, e_mOrT, e_mIf, e_mNotB, e_mChain, e_maNil, e_maCons, e_mTup, e_mCall, e_mFld, e_mProp, e_mMeth, e_mUnO, e_mBinO, e_mCallO, e_mCMeth, e_mRaise, e_mTry, e_mFn, e_mNeg, e_mIsiB, e_mIsiO, e_mFor, e_miRange1, e_miRange2, e_miRangeW, e_miZip, e_zpT, e_mIsi2, e_miAny, e_seqT, e_powW, e_mAug, e_addI, e_fTupleT, e_mSl00, e_mSl01, e_mSl10, e_mSl11, e_miTup, e_body, e_addII, e_addIB, e_addSS, e_addTT, e_subII, e_mulII, e_fdivII, e_modII, e_powII, e_ltII, e_leII, e_gtII, e_geII, e_is, e_isNot, e_ixT, e_ixS, e_ixD, e_inD, e_fLenS, e_fLenT, e_fMax2, e_fMin2, e_fAbs, e_fIntI, e_fIntB, e_fBoolI, e_fBoolB, e_mExcF, e_tryNil, e_tryCons, e_mBM, e_mEqO, e_mNeO, e_fLenO, e_fBoolO, e_mtTO, e_mInO, e_mNotInO, e_mGetO, e_mSortedSet, e_mLstRg1, e_mDic1, e_mDic0, e_miRange3, e_mtYes, putD, List.getElem?_cons_zero, List.getElem?_cons_succ, List.set_cons_zero, List.set_cons_succ, List.map_cons, List.map_nil, List.length_cons, List.length_nil, List.cons_append, List.nil_append, List.append_nil, List.replicate, Nat.reduceAdd, Nat.reduceSub, Nat.reduceLeDiff, Nat.zero_add, true_and, and_true, reduceIte, Bool.false_eq_true, Bool.true_eq_false, Bool.not_true, Bool.not_false, w_mLst, w_mMake, w_miLst, w_gmUnl, w_mComp, w_mComp2, compL_nil, w_compL, w_mSetF, w_addRR, mEq_int', List.length_map]
  have fin : ∀ {S1 S2 : Sto} {v : Int} {qq : Sto → Prop}, W n S ((S.length, .ins "Moments" [("own_firsts", .tup (fs.map D.int))]) :: L) S1 → (∀ S2, W n S ((S.length, mom fs v) :: L) S2 → qq S2) → setD "Moments" "own_period" (.ref S.length) (.int v) S1 qq := fun {S1 S2 v qq} w h => by
    refine set_ok w (Nat.le_refl _) hL (by simp) fun S2 w => ?_
    rw [put2] at w
    exact h S2 w
  by_cases e : fs = []
  · rw [if_pos (by rw [e]; rfl)]
    refine fin (S2 := S1) w fun S2 w => ?_
    try simp only [e_mNext, e_mSeq, e_mExpr, e_mRet, e_mRetN, e_mIfS, e_mBreak, e_mCont, e_mAsg, e_mPar, e_gmName, e_gmNil, e_gmCons, e_gmTup, e_gmSub, e_mVar, e_mC, e_mOp, e_mtB, e_mtT, e_mtNot, e_mtAnd, e_mtOr, e_mAnd, e_mOr, e_mAndT, e_mOrT, e_mIf, e_mNotB, e_mChain, e_maNil, e_maCons, e_mTup, e_mCall, e_mFld, e_mProp, e_mMeth, e_mUnO, e_mBinO, e_mCallO, e_mCMeth, e_mRaise, e_mTry, e_mFn, e_mNeg, e_mIsiB, e_mIsiO, e_mFor, e_miRange1, e_miRange2, e_miRangeW, e_miZip, e_zpT, e_mIsi2, e_miAny, e_seqT, e_powW, e_mAug, e_addI, e_fTupleT, e_mSl00, e_mSl01, e_mSl10, e_mSl11, e_miTup, e_body, e_addII, e_addIB, e_addSS, e_addTT, e_subII, e_mulII, e_fdivII, e_modII, e_powII, e_ltII, e_leII, e_gtII, e_geII, e_is, e_isNot, e_ixT, e_ixS, e_ixD, e_inD, e_fLenS, e_fLenT, e_fMax2, e_fMin2, e_fAbs, e_fIntI, e_fIntB, e_fBoolI, e_fBoolB, e_mExcF, e_tryNil, e_tryCons, e_mBM, e_mEqO, e_mNeO, e_fLenO, e_fBoolO, e_mtTO, e_mInO, e_mNotInO, e_mGetO, e_mSortedSet, e_mLstRg1, e_mDic1, e_mDic0, e_miRange3, e_mtYes, putD, List.getElem?_cons_zero, List.getElem?_cons_succ, List.set_cons_zero, List.set_cons_succ, List.map_cons, List.map_nil, List.length_cons, List.length_nil, List.cons_append, List.nil_append, List.append_nil, List.replicate, Nat.reduceAdd, Nat.reduceSub, Nat.reduceLeDiff, Nat.zero_add, true_and, and_true, reduceIte, Bool.false_eq_true, Bool.true_eq_false, Bool.not_true, Bool.not_false, w_mLst, w_mMake, w_miLst, w_gmUnl, w_mComp, w_mComp2, compL_nil, w_compL, w_mSetF, w_addRR]
    refine ins_ok w (by repeat (first | exact List.Mem.head _ | apply List.Mem.tail)) ?_
    simp only [fl_period, e_mNext, e_mSeq, e_mExpr, e_mRet, e_mRetN, e_mIfS, e_mBreak, e_mCont, e_mAsg, e_mPar, e_gmName, e_gmNil, e_gmCons, e_gmTup, e_gmSub, e_mVar, e_mC, e_mOp, e_mtB, e_mtT, e_mtNot, e_mtAnd, e_mtOr, e_mAnd, e_mOr, e_mAndT, e_mOrT, e_mIf, e_mNotB, e_mChain, e_maNil, e_maCons, e_mTup, e_mCall, e_mFld, e_mProp, e_mMeth, e_mUnO, e_mBinO, e_mCallO, e_mCMeth, e_mRaise, e_mTry, e_mFn, e_mNeg, e_mIsiB, e_mIsiO, e_mFor, e_miRange1, e_miRange2, e_miRangeW, e_miZip, e_zpT, e_mIsi2, e_miAny, e_seqT, e_powW, e_mAug, e_addI, e_fTupleT, e_mSl00, e_mSl01, e_mSl10, e_mSl11, e_miTup, e_body, e_addII, e_addIB, e_addSS, e_addTT, e_subII, e_mulII, e_fdivII, e_modII, e_powII, e_ltII, e_leII, e_gtII, e_geII, e_is, e_isNot, e_ixT, e_ixS, e_ixD, e_inD, e_fLenS, e_fLenT, e_fMax2, e_fMin2, e_fAbs, e_fIntI, e_fIntB, e_fBoolI, e_fBoolB, e_mExcF, e_tryNil, e_tryCons, e_mBM, e_mEqO, e_mNeO, e_fLenO, e_fBoolO, e_mtTO, e_mInO, e_mNotInO, e_mGetO, e_mSortedSet, e_mLstRg1, e_mDic1, e_mDic0, e_miRange3, e_mtYes, putD, List.getElem?_cons_zero, List.getElem?_cons_succ, List.set_cons_zero, List.set_cons_succ, List.map_cons, List.map_nil, List.length_cons, List.length_nil, List.cons_append, List.nil_append, List.append_nil, List.replicate, Nat.reduceAdd, Nat.reduceSub, Nat.reduceLeDiff, Nat.zero_add, true_and, and_true, reduceIte, Bool.false_eq_true, Bool.true_eq_false, Bool.not_true, Bool.not_false, w_mLst, w_mMake, w_miLst, w_gmUnl, w_mComp, w_mComp2, compL_nil, w_compL, w_mSetF, w_addRR, show decide ((0 : Int) < 0) = false from rfl]
    rw [e] at w
    exact hq _ [] 0 _ (.inl ⟨e, rfl, rfl⟩) w
  · have lp : 0 < fs.length := List.length_pos_iff.mpr e
    rw [if_neg (by simp; omega)]
    refine fin (S2 := S1) w fun S2 w => ?_
    try simp only [e_mNext, e_mSeq, e_mExpr, e_mRet, e_mRetN, e_mIfS, e_mBreak, e_mCont, e_mAsg, e_mPar, e_gmName, e_gmNil, e_gmCons, e_gmTup, e_gmSub, e_mVar, e_mC, e_mOp, e_mtB, e_mtT, e_mtNot, e_mtAnd, e_mtOr, e_mAnd, e_mOr, e_mAndT, e_mOrT, e_mIf, e_mNotB, e_mChain, e_maNil, e_maCons, e_mTup, e_mCall, e_mFld, e_mProp, e_mMeth, e_mUnO, e_mBinO, e_mCallO, e_mCMeth, e_mRaise, e_mTry, e_mFn, e_mNeg, e_mIsiB, e_mIsiO, e_mFor, e_miRange1, e_miRange2, e_miRangeW, e_miZip, e_zpT, e_mIsi2, e_miAny, e_seqT, e_powW, e_mAug, e_addI, e_fTupleT, e_mSl00, e_mSl01, e_mSl10, e_mSl11, e_miTup, e_body, e_addII, e_addIB, e_addSS, e_addTT, e_subII, e_mulII, e_fdivII, e_modII, e_powII, e_ltII, e_leII, e_gtII, e_geII, e_is, e_isNot, e_ixT, e_ixS, e_ixD, e_inD, e_fLenS, e_fLenT, e_fMax2, e_fMin2, e_fAbs, e_fIntI, e_fIntB, e_fBoolI, e_fBoolB, e_mExcF, e_tryNil, e_tryCons, e_mBM, e_mEqO, e_mNeO, e_fLenO, e_fBoolO, e_mtTO, e_mInO, e_mNotInO, e_mGetO, e_mSortedSet, e_mLstRg1, e_mDic1, e_mDic0, e_miRange3, e_mtYes, putD, List.getElem?_cons_zero, List.getElem?_cons_succ, List.set_cons_zero, List.set_cons_succ, List.map_cons, List.map_nil, List.length_cons, List.length_nil, List.cons_append, List.nil_append, List.append_nil, List.replicate, Nat.reduceAdd, Nat.reduceSub, Nat.reduceLeDiff, Nat.zero_add, true_and, and_true, reduceIte, Bool.false_eq_true, Bool.true_eq_false, Bool.not_true, Bool.not_false, w_mLst, w_mMake, w_miLst, w_gmUnl, w_mComp, w_mComp2, compL_nil, w_compL, w_mSetF, w_addRR]
    refine ins_ok w (by repeat (first | exact List.Mem.head _ | apply List.Mem.tail)) ?_
    simp only [fl_period, e_mNext, e_mSeq, e_mExpr, e_mRet, e_mRetN, e_mIfS, e_mBreak, e_mCont, e_mAsg, e_mPar, e_gmName, e_gmNil, e_gmCons, e_gmTup, e_gmSub, e_mVar, e_mC, e_mOp, e_mtB, e_mtT, e_mtNot, e_mtAnd, e_mtOr, e_mAnd, e_mOr, e_mAndT, e_mOrT, e_mIf, e_mNotB, e_mChain, e_maNil, e_maCons, e_mTup, e_mCall, e_mFld, e_mProp, e_mMeth, e_mUnO, e_mBinO, e_mCallO, e_mCMeth, e_mRaise, e_mTry, e_mFn, e_mNeg, e_mIsiB, e_mIsiO, e_mFor, e_miRange1, e_miRange2, e_miRangeW, e_miZip, e_zpT, e_mIsi2, e_miAny, e_seqT, e_powW, e_mAug, e_addI, e_fTupleT, e_mSl00, e_mSl01, e_mSl10, e_mSl11, e_miTup, e_body, e_addII, e_addIB, e_addSS, e_addTT, e_subII, e_mulII, e_fdivII, e_modII, e_powII, e_ltII, e_leII, e_gtII, e_geII, e_is, e_isNot, e_ixT, e_ixS, e_ixD, e_inD, e_fLenS, e_fLenT, e_fMax2, e_fMin2, e_fAbs, e_fIntI, e_fIntB, e_fBoolI, e_fBoolB, e_mExcF, e_tryNil, e_tryCons, e_mBM, e_mEqO, e_mNeO, e_fLenO, e_fBoolO, e_mtTO, e_mInO, e_mNotInO, e_mGetO, e_mSortedSet, e_mLstRg1, e_mDic1, e_mDic0, e_miRange3, e_mtYes, putD, List.getElem?_cons_zero, List.getElem?_cons_succ, List.set_cons_zero, List.set_cons_succ, List.map_cons, List.map_nil, List.length_cons, List.length_nil, List.cons_append, List.nil_append, List.append_nil, List.replicate, Nat.reduceAdd, Nat.reduceSub, Nat.reduceLeDiff, Nat.zero_add, true_and, and_true, reduceIte, Bool.false_eq_true, Bool.true_eq_false, Bool.not_true, Bool.not_false, w_mLst, w_mMake, w_miLst, w_gmUnl, w_mComp, w_mComp2, compL_nil, w_compL, w_mSetF, w_addRR]
    by_cases hp0 : p = 0
    · rw [if_neg (by simp; omega)]
      rw [hp0] at w
      exact hq _ fs 0 _ (.inr (.inl ⟨e, hp0, rfl, rfl⟩)) w
    · have hp1 : 0 < p := by omega
      rw [if_pos (decide_eq_true hp1)]
      refine ins_ok w (by repeat (first | exact List.Mem.head _ | apply List.Mem.tail)) ?_
      simp only [fl_firsts, e_mNext, e_mSeq, e_mExpr, e_mRet, e_mRetN, e_mIfS, e_mBreak, e_mCont, e_mAsg, e_mPar, e_gmName, e_gmNil, e_gmCons, e_gmTup, e_gmSub, e_mVar, e_mC, e_mOp, e_mtB, e_mtT, e_mtNot, e_mtAnd, e_mtOr, e_mAnd, e_mOr, e_mAndT, e_mOrT, e_mIf, e_mNotB, e_mChain, e_maNil, e_maCons, e_mTup, e_mCall, e_mFld, e_mProp, e_mMeth, e_mUnO, e_mBinO, e_mCallO, e_mCMeth, e_mRaise, e_mTry, e_mFn, e_mNeg, e_mIsiB, e_mIsiO, e_mFor, e_miRange1, e_miRange2, e_miRangeW, e_miZip, e_zpT, e_mIsi2, e_miAny, e_seqT, e_powW, e_mAug, e_addI, e_fTupleT, e_mSl00, e_mSl01, e_mSl10, e_mSl11, e_miTup, e_body, e_addII, e_addIB, e_addSS, e_addTT, e_subII, e_mulII, e_fdivII, e_modII, e_powII, e_ltII, e_leII, e_gtII, e_geII, e_is, e_isNot, e_ixT, e_ixS, e_ixD, e_inD, e_fLenS, e_fLenT, e_fMax2, e_fMin2, e_fAbs, e_fIntI, e_fIntB, e_fBoolI, e_fBoolB, e_mExcF, e_tryNil, e_tryCons, e_mBM, e_mEqO, e_mNeO, e_fLenO, e_fBoolO, e_mtTO, e_mInO, e_mNotInO, e_mGetO, e_mSortedSet, e_mLstRg1, e_mDic1, e_mDic0, e_miRange3, e_mtYes, putD, List.getElem?_cons_zero, List.getElem?_cons_succ, List.set_cons_zero, List.set_cons_succ, List.map_cons, List.map_nil, List.length_cons, List.length_nil, List.cons_append, List.nil_append, List.append_nil, List.replicate, Nat.reduceAdd, Nat.reduceSub, Nat.reduceLeDiff, Nat.zero_add, true_and, and_true, reduceIte, Bool.false_eq_true, Bool.true_eq_false, Bool.not_true, Bool.not_false, w_mLst, w_mMake, w_miLst, w_gmUnl, w_mComp, w_mComp2, compL_nil, w_compL, w_mSetF, w_addRR]
      refine least_w w hp1 e hl fun k S3 hk hr hno w => ?_
      refine set_ok w (Nat.le_refl _) hL (by simp) fun S4 w => ?_
      rw [put3] at w
      try simp only [e_mNext, e_mSeq, e_mExpr, e_mRet, e_mRetN, e_mIfS, e_mBreak, e_mCont, e_mAsg, e_mPar, e_gmName, e_gmNil, e_gmCons, e_gmTup, e_gmSub, e_mVar, e_mC, e_mOp, e_mtB, e_mtT, e_mtNot, e_mtAnd, e_mtOr, e_mAnd, e_mOr, e_mAndT, e_mOrT, e_mIf, e_mNotB, e_mChain, e_maNil, e_maCons, e_mTup, e_mCall, e_mFld, e_mProp, e_mMeth, e_mUnO, e_mBinO, e_mCallO, e_mCMeth, e_mRaise, e_mTry, e_mFn, e_mNeg, e_mIsiB, e_mIsiO, e_mFor, e_miRange1, e_miRange2, e_miRangeW, e_miZip, e_zpT, e_mIsi2, e_miAny, e_seqT, e_powW, e_mAug, e_addI, e_fTupleT, e_mSl00, e_mSl01, e_mSl10, e_mSl11, e_miTup, e_body, e_addII, e_addIB, e_addSS, e_addTT, e_subII, e_mulII, e_fdivII, e_modII, e_powII, e_ltII, e_leII, e_gtII, e_geII, e_is, e_isNot, e_ixT, e_ixS, e_ixD, e_inD, e_fLenS, e_fLenT, e_fMax2, e_fMin2, e_fAbs, e_fIntI, e_fIntB, e_fBoolI, e_fBoolB, e_mExcF, e_tryNil, e_tryCons, e_mBM, e_mEqO, e_mNeO, e_fLenO, e_fBoolO, e_mtTO, e_mInO, e_mNotInO, e_mGetO, e_mSortedSet, e_mLstRg1, e_mDic1, e_mDic0, e_miRange3, e_mtYes, putD, List.getElem?_cons_zero, List.getElem?_cons_succ, List.set_cons_zero, List.set_cons_succ, List.map_cons, List.map_nil, List.length_cons, List.length_nil, List.cons_append, List.nil_append, List.append_nil, List.replicate, Nat.reduceAdd, Nat.reduceSub, Nat.reduceLeDiff, Nat.zero_add, true_and, and_true, reduceIte, Bool.false_eq_true, Bool.true_eq_false, Bool.not_true, Bool.not_false, w_mLst, w_mMake, w_miLst, w_gmUnl, w_mComp, w_mComp2, compL_nil, w_compL, w_mSetF, w_addRR, wipeD]
      refine compA D.int (fun v => if decide (v < p / k) = true then some (D.int v) else none) trivial fs [] (by simp; omega) (fun v _ acc C hl h => ?_) ?_
      · simp only [e_mNext, e_mSeq, e_mExpr, e_mRet, e_mRetN, e_mIfS, e_mBreak, e_mCont, e_mAsg, e_mPar, e_gmName, e_gmNil, e_gmCons, e_gmTup, e_gmSub, e_mVar, e_mC, e_mOp, e_mtB, e_mtT, e_mtNot, e_mtAnd, e_mtOr, e_mAnd, e_mOr, e_mAndT, e_mOrT, e_mIf, e_mNotB, e_mChain, e_maNil, e_maCons, e_mTup, e_mCall, e_mFld, e_mProp, e_mMeth, e_mUnO, e_mBinO, e_mCallO, e_mCMeth, e_mRaise, e_mTry, e_mFn, e_mNeg, e_mIsiB, e_mIsiO, e_mFor, e_miRange1, e_miRange2, e_miRangeW, e_miZip, e_zpT, e_mIsi2, e_miAny, e_seqT, e_powW, e_mAug, e_addI, e_fTupleT, e_mSl00, e_mSl01, e_mSl10, e_mSl11, e_miTup, e_body, e_addII, e_addIB, e_addSS, e_addTT, e_subII, e_mulII, e_fdivII, e_modII, e_powII, e_ltII, e_leII, e_gtII, e_geII, e_is, e_isNot, e_ixT, e_ixS, e_ixD, e_inD, e_fLenS, e_fLenT, e_fMax2, e_fMin2, e_fAbs, e_fIntI, e_fIntB, e_fBoolI, e_fBoolB, e_mExcF, e_tryNil, e_tryCons, e_mBM, e_mEqO, e_mNeO, e_fLenO, e_fBoolO, e_mtTO, e_mInO, e_mNotInO, e_mGetO, e_mSortedSet, e_mLstRg1, e_mDic1, e_mDic0, e_miRange3, e_mtYes, putD, List.getElem?_cons_zero, List.getElem?_cons_succ, List.set_cons_zero, List.set_cons_succ, List.map_cons, List.map_nil, List.length_cons, List.length_nil, List.cons_append, List.nil_append, List.append_nil, List.replicate, Nat.reduceAdd, Nat.reduceSub, Nat.reduceLeDiff, Nat.zero_add, true_and, and_true, reduceIte, Bool.false_eq_true, Bool.true_eq_false, Bool.not_true, Bool.not_false, w_mLst, w_mMake, w_miLst, w_gmUnl, w_mComp, w_mComp2, compL_nil, w_compL, w_mSetF, w_addRR]
        refine ins_ok w (by repeat (first | exact List.Mem.head _ | apply List.Mem.tail)) ?_
        simp only [fl_period, e_mNext, e_mSeq, e_mExpr, e_mRet, e_mRetN, e_mIfS, e_mBreak, e_mCont, e_mAsg, e_mPar, e_gmName, e_gmNil, e_gmCons, e_gmTup, e_gmSub, e_mVar, e_mC, e_mOp, e_mtB, e_mtT, e_mtNot, e_mtAnd, e_mtOr, e_mAnd, e_mOr, e_mAndT, e_mOrT, e_mIf, e_mNotB, e_mChain, e_maNil, e_maCons, e_mTup, e_mCall, e_mFld, e_mProp, e_mMeth, e_mUnO, e_mBinO, e_mCallO, e_mCMeth, e_mRaise, e_mTry, e_mFn, e_mNeg, e_mIsiB, e_mIsiO, e_mFor, e_miRange1, e_miRange2, e_miRangeW, e_miZip, e_zpT, e_mIsi2, e_miAny, e_seqT, e_powW, e_mAug, e_addI, e_fTupleT, e_mSl00, e_mSl01, e_mSl10, e_mSl11, e_miTup, e_body, e_addII, e_addIB, e_addSS, e_addTT, e_subII, e_mulII, e_fdivII, e_modII, e_powII, e_ltII, e_leII, e_gtII, e_geII, e_is, e_isNot, e_ixT, e_ixS, e_ixD, e_inD, e_fLenS, e_fLenT, e_fMax2, e_fMin2, e_fAbs, e_fIntI, e_fIntB, e_fBoolI, e_fBoolB, e_mExcF, e_tryNil, e_tryCons, e_mBM, e_mEqO, e_mNeO, e_fLenO, e_fBoolO, e_mtTO, e_mInO, e_mNotInO, e_mGetO, e_mSortedSet, e_mLstRg1, e_mDic1, e_mDic0, e_miRange3, e_mtYes, putD, List.getElem?_cons_zero, List.getElem?_cons_succ, List.set_cons_zero, List.set_cons_succ, List.map_cons, List.map_nil, List.length_cons, List.length_nil, List.cons_append, List.nil_append, List.append_nil, List.replicate, Nat.reduceAdd, Nat.reduceSub, Nat.reduceLeDiff, Nat.zero_add, true_and, and_true, reduceIte, Bool.false_eq_true, Bool.true_eq_false, Bool.not_true, Bool.not_false, w_mLst, w_mMake, w_miLst, w_gmUnl, w_mComp, w_mComp2, compL_nil, w_compL, w_mSetF, w_addRR]
        by_cases hv : v < p / k
        · simp only [decide_eq_true hv, reduceIte, Option.toList] at h ⊢
          exact ⟨hl, h⟩
        · simp only [decide_eq_false hv, Bool.false_eq_true, reduceIte, Option.toList, List.append_nil] at h ⊢
          exact h
      · rw [List.nil_append, filt_map]
        intro j2 S5 e1 e2
        have w0 := w
        replace w := w.new e1 e2
        refine tuple_w w (List.mem_cons_self ..) ?_
        have w1 := W.sub (L' := (S.length, .ins "Moments" [("own_firsts", .tup (fs.map D.int)), ("own_period", .int (p / k))]) :: L) w fun _ _ m => .tail _ m
        refine set_ok w1 (Nat.le_refl _) hL (by simp) fun S6 w => ?_
        rw [put4] at w
        exact hq _ _ _ _ (.inr (.inr ⟨e, hp1, k, hk, hr, hno, rfl, rfl⟩)) w
theorem init_t (w : W n B L S) (hl : fs.length ≤ 2000) (h0 : ∀ f ∈ fs, 0 ≤ f) (ha : fs.Pairwise (· < ·)) (hp : 0 ≤ p) (hlt : p = 0 ∨ ∀ f ∈ fs, f < p)
    (hq : ∀ S' gs q', Mk fs p gs q' → W n B ((S.length, mom gs q') :: L) S' → q .non S') : u_Moments_init [.ref S.length, .tup (fs.map D.int), .int p] (S ++ [.ins "Moments" []]) q x := by
  rw [e_u_Moments_init, e_b_Moments_init, e_b_Moments_init_6, e_b_Moments_init_5]
  try simp only [e_mNext, e_mSeq, e_mExpr, e_mRet, e_mRetN, e_mIfS, e_mBreak, e_mCont, e_mAsg, e_mPar, e_gmName, e_gmNil, e_gmCons, e_gmTup, e_gmSub, e_mVar, e_mC, e_mOp, e_mtB, e_mtT, e_mtNot, e_mtAnd, e_mtOr, e_mAnd, e_mOr, e_mAndT, e_mOrT, e_mIf, e_mNotB, e_mChain, e_maNil, e_maCons, e_mTup, e_mCall, e_mFld, e_mProp, e_mMeth, e_mUnO, e_mBinO, e_mCallO, e_mCMeth, e_mRaise, e_mTry, e_mFn, e_mNeg, e_mIsiB, e_mIsiO, e_mFor, e_miRange1, e_miRange2, e_miRangeW, e_miZip, e_zpT, e_mIsi2, e_miAny, e_seqT, e_powW, e_mAug, e_addI, e_fTupleT, e_mSl00, e_mSl01, e_mSl10, e_mSl11, e_miTup, e_body, e_addII, e_addIB, e_addSS, e_addTT, e_subII, e_mulII, e_fdivII, e_modII, e_powII, e_ltII, e_leII, e_gtII, e_geII, e_is, e_isNot, e_ixT, e_ixS, e_ixD, e_inD, e_fLenS, e_fLenT, e_fMax2, e_fMin2, e_fAbs, e_fIntI, e_fIntB, e_fBoolI, e_fBoolB, e_mExcF, e_tryNil, e_tryCons, e_mBM, e_mEqO, e_mNeO, e_fLenO, e_fBoolO, e_mtTO, e_mInO, e_mNotInO, e_mGetO, e_mSortedSet, e_mLstRg1, e_mDic1, e_mDic0, e_miRange3, e_mtYes, putD, List.getElem?_cons_zero, List.getElem?_cons_succ, List.set_cons_zero, List.set_cons_succ, List.map_cons, List.map_nil, List.length_cons, List.length_nil, List.cons_append, List.nil_append, List.append_nil, List.replicate, Nat.reduceAdd, Nat.reduceSub, Nat.reduceLeDiff, Nat.zero_add, true_and, and_true, reduceIte, Bool.false_eq_true, Bool.true_eq_false, Bool.not_true, Bool.not_false, w_mLst, w_mMake, w_miLst, w_gmUnl, w_mComp, w_mComp2, compL_nil, w_compL, w_mSetF, w_addRR]
  have hL : ∀ i u, (i, u) ∈ L → i ≠ S.length := fun i u m => by
    have := w.lt m
    omega
  have w1 : W n S ((S.length, .ins "Moments" []) :: L) (S ++ [.ins "Moments" []]) := (w.base fun _ _ m => m).new rfl rfl
  refine afT_w w1 hl fun S1 w1 => ?_
  have e1 : (fs.all fun f => decide (0 ≤ f)) = true := List.all_eq_true.mpr fun f m => decide_eq_true (h0 f m)
  rw [e1, asc_of ha]
  simp only [e_mNext, e_mSeq, e_mExpr, e_mRet, e_mRetN, e_mIfS, e_mBreak, e_mCont, e_mAsg, e_mPar, e_gmName, e_gmNil, e_gmCons, e_gmTup, e_gmSub, e_mVar, e_mC, e_mOp, e_mtB, e_mtT, e_mtNot, e_mtAnd, e_mtOr, e_mAnd, e_mOr, e_mAndT, e_mOrT, e_mIf, e_mNotB, e_mChain, e_maNil, e_maCons, e_mTup, e_mCall, e_mFld, e_mProp, e_mMeth, e_mUnO, e_mBinO, e_mCallO, e_mCMeth, e_mRaise, e_mTry, e_mFn, e_mNeg, e_mIsiB, e_mIsiO, e_mFor, e_miRange1, e_miRange2, e_miRangeW, e_miZip, e_zpT, e_mIsi2, e_miAny, e_seqT, e_powW, e_mAug, e_addI, e_fTupleT, e_mSl00, e_mSl01, e_mSl10, e_mSl11, e_miTup, e_body, e_addII, e_addIB, e_addSS, e_addTT, e_subII, e_mulII, e_fdivII, e_modII, e_powII, e_ltII, e_leII, e_gtII, e_geII, e_is, e_isNot, e_ixT, e_ixS, e_ixD, e_inD, e_fLenS, e_fLenT, e_fMax2, e_fMin2, e_fAbs, e_fIntI, e_fIntB, e_fBoolI, e_fBoolB, e_mExcF, e_tryNil, e_tryCons, e_mBM, e_mEqO, e_mNeO, e_fLenO, e_fBoolO, e_mtTO, e_mInO, e_mNotInO, e_mGetO, e_mSortedSet, e_mLstRg1, e_mDic1, e_mDic0, e_miRange3, e_mtYes, putD, List.getElem?_cons_zero, List.getElem?_cons_succ, List.set_cons_zero, List.set_cons_succ, List.map_cons, List.map_nil, List.length_cons, List.length_nil, List.cons_append, List.nil_append, List.append_nil, List.replicate, Nat.reduceAdd, Nat.reduceSub, Nat.reduceLeDiff, Nat.zero_add, true_and, and_true, reduceIte, Bool.false_eq_true, Bool.true_eq_false, Bool.not_true, Bool.not_false, w_mLst, w_mMake, w_miLst, w_gmUnl, w_mComp, w_mComp2, compL_nil, w_compL, w_mSetF, w_addRR, Bool.and_self]
  refine check_least_ok True.intro (fun _ _ _ => ?_) (fun e => by
    rcases e with e | ⟨i, e, h⟩
    · cases e
    · cases e; omega)
  try simp only [e_mNext, e_mSeq, e_mExpr, e_mRet, e_mRetN, e_mIfS, e_mBreak, e_mCont, e_mAsg, e_mPar, e_gmName, e_gmNil, e_gmCons, e_gmTup, e_gmSub, e_mVar, e_mC, e_mOp, e_mtB, e_mtT, e_mtNot, e_mtAnd, e_mtOr, e_mAnd, e_mOr, e_mAndT, e_mOrT, e_mIf, e_mNotB, e_mChain, e_maNil, e_maCons, e_mTup, e_mCall, e_mFld, e_mProp, e_mMeth, e_mUnO, e_mBinO, e_mCallO, e_mCMeth, e_mRaise, e_mTry, e_mFn, e_mNeg, e_mIsiB, e_mIsiO, e_mFor, e_miRange1, e_miRange2, e_miRangeW, e_miZip, e_zpT, e_mIsi2, e_miAny, e_seqT, e_powW, e_mAug, e_addI, e_fTupleT, e_mSl00, e_mSl01, e_mSl10, e_mSl11, e_miTup, e_body, e_addII, e_addIB, e_addSS, e_addTT, e_subII, e_mulII, e_fdivII, e_modII, e_powII, e_ltII, e_leII, e_gtII, e_geII, e_is, e_isNot, e_ixT, e_ixS, e_ixD, e_inD, e_fLenS, e_fLenT, e_fMax2, e_fMin2, e_fAbs, e_fIntI, e_fIntB, e_fBoolI, e_fBoolB, e_mExcF, e_tryNil, e_tryCons, e_mBM, e_mEqO, e_mNeO, e_fLenO, e_fBoolO, e_mtTO, e_mInO, e_mNotInO, e_mGetO, e_mSortedSet, e_mLstRg1, e_mDic1, e_mDic0, e_miRange3, e_mtYes, putD, List.getElem?_cons_zero, List.getElem?_cons_succ, List.set_cons_zero, List.set_cons_succ, List.map_cons, List.map_nil, List.length_cons, List.length_nil, List.cons_append, List.nil_append, List.append_nil, List.replicate, Nat.reduceAdd, Nat.reduceSub, Nat.reduceLeDiff, Nat.zero_add, true_and, and_true, reduceIte, Bool.false_eq_true, Bool.true_eq_false, Bool.not_true, Bool.not_false, w_mLst, w_mMake, w_miLst, w_gmUnl, w_mComp, w_mComp2, compL_nil, w_compL, w_mSetF, w_addRR]
  have fin : ∀ {S2 : Sto} {c3 : Option D} {md : MEnds}, (∀ S' c3, md.nx [some (.ref S.length), some (.tup (fs.map D.int)), some (.int p), c3] S' = q .non S') → W n S ((S.length, .ins "Moments" []) :: L) S2 → b_Moments_init_4 md [some (.ref S.length), some (.tup (fs.map D.int)), some (.int p), c3] S2 := fun {S2 c3 md} hmd w2 =>
    init4_t w2 hL hl hp fun S' gs q' c3 hk w3 => by
      rw [hmd]
      refine hq S' gs q' hk ?_
      have b := w.back w3
      exact ⟨b.src, b.fr, fun j o h => by
        rcases List.mem_cons.mp h with e | h
        · exact w3.kn j o (by rw [e]; exact List.mem_cons_self)
        · exact b.kn j o h⟩
  by_cases hp0 : p = 0
  · rw [if_neg (by simp; omega)]
    exact fin (fun _ _ => rfl) w1
  · rw [if_pos (by simp; omega)]
    simp only [wipeD, List.set_cons_succ, List.set_cons_zero]
    refine compA D.int (fun v => some (D.bl (decide (v < p)))) trivial fs [] (by simp; omega) (fun v _ acc C hl h => ?_) ?_
    · simp only [e_mNext, e_mSeq, e_mExpr, e_mRet, e_mRetN, e_mIfS, e_mBreak, e_mCont, e_mAsg, e_mPar, e_gmName, e_gmNil, e_gmCons, e_gmTup, e_gmSub, e_mVar, e_mC, e_mOp, e_mtB, e_mtT, e_mtNot, e_mtAnd, e_mtOr, e_mAnd, e_mOr, e_mAndT, e_mOrT, e_mIf, e_mNotB, e_mChain, e_maNil, e_maCons, e_mTup, e_mCall, e_mFld, e_mProp, e_mMeth, e_mUnO, e_mBinO, e_mCallO, e_mCMeth, e_mRaise, e_mTry, e_mFn, e_mNeg, e_mIsiB, e_mIsiO, e_mFor, e_miRange1, e_miRange2, e_miRangeW, e_miZip, e_zpT, e_mIsi2, e_miAny, e_seqT, e_powW, e_mAug, e_addI, e_fTupleT, e_mSl00, e_mSl01, e_mSl10, e_mSl11, e_miTup, e_body, e_addII, e_addIB, e_addSS, e_addTT, e_subII, e_mulII, e_fdivII, e_modII, e_powII, e_ltII, e_leII, e_gtII, e_geII, e_is, e_isNot, e_ixT, e_ixS, e_ixD, e_inD, e_fLenS, e_fLenT, e_fMax2, e_fMin2, e_fAbs, e_fIntI, e_fIntB, e_fBoolI, e_fBoolB, e_mExcF, e_tryNil, e_tryCons, e_mBM, e_mEqO, e_mNeO, e_fLenO, e_fBoolO, e_mtTO, e_mInO, e_mNotInO, e_mGetO, e_mSortedSet, e_mLstRg1, e_mDic1, e_mDic0, e_miRange3, e_mtYes, putD, List.getElem?_cons_zero, List.getElem?_cons_succ, List.set_cons_zero, List.set_cons_succ, List.map_cons, List.map_nil, List.length_cons, List.length_nil, List.cons_append, List.nil_append, List.append_nil, List.replicate, Nat.reduceAdd, Nat.reduceSub, Nat.reduceLeDiff, Nat.zero_add, true_and, and_true, reduceIte, Bool.false_eq_true, Bool.true_eq_false, Bool.not_true, Bool.not_false, w_mLst, w_mMake, w_miLst, w_gmUnl, w_mComp, w_mComp2, compL_nil, w_compL, w_mSetF, w_addRR]
      exact ⟨hl, h⟩
    · rw [List.nil_append, map_some]
      intro j2 S2 e2 e3
      have w2 := w1.new e2 e3
      refine all_w (bs := fs.map fun v => decide (v < p)) w2 (by rw [List.map_map]; exact List.mem_cons_self) ?_
      have e4 : ((fs.map fun v => decide (v < p)).all id) = true := by
        rcases hlt with h | h
        · exact absurd h hp0
        · rw [List.all_map, List.all_eq_true]
          exact fun f m => decide_eq_true (h f m)
      simp only [e4, e_mNext, e_mSeq, e_mExpr, e_mRet, e_mRetN, e_mIfS, e_mBreak, e_mCont, e_mAsg, e_mPar, e_gmName, e_gmNil, e_gmCons, e_gmTup, e_gmSub, e_mVar, e_mC, e_mOp, e_mtB, e_mtT, e_mtNot, e_mtAnd, e_mtOr, e_mAnd, e_mOr, e_mAndT, e_mOrT, e_mIf, e_mNotB, e_mChain, e_maNil, e_maCons, e_mTup, e_mCall, e_mFld, e_mProp, e_mMeth, e_mUnO, e_mBinO, e_mCallO, e_mCMeth, e_mRaise, e_mTry, e_mFn, e_mNeg, e_mIsiB, e_mIsiO, e_mFor, e_miRange1, e_miRange2, e_miRangeW, e_miZip, e_zpT, e_mIsi2, e_miAny, e_seqT, e_powW, e_mAug, e_addI, e_fTupleT, e_mSl00, e_mSl01, e_mSl10, e_mSl11, e_miTup, e_body, e_addII, e_addIB, e_addSS, e_addTT, e_subII, e_mulII, e_fdivII, e_modII, e_powII, e_ltII, e_leII, e_gtII, e_geII, e_is, e_isNot, e_ixT, e_ixS, e_ixD, e_inD, e_fLenS, e_fLenT, e_fMax2, e_fMin2, e_fAbs, e_fIntI, e_fIntB, e_fBoolI, e_fBoolB, e_mExcF, e_tryNil, e_tryCons, e_mBM, e_mEqO, e_mNeO, e_fLenO, e_fBoolO, e_mtTO, e_mInO, e_mNotInO, e_mGetO, e_mSortedSet, e_mLstRg1, e_mDic1, e_mDic0, e_miRange3, e_mtYes, putD, List.getElem?_cons_zero, List.getElem?_cons_succ, List.set_cons_zero, List.set_cons_succ, List.map_cons, List.map_nil, List.length_cons, List.length_nil, List.cons_append, List.nil_append, List.append_nil, List.replicate, Nat.reduceAdd, Nat.reduceSub, Nat.reduceLeDiff, Nat.zero_add, true_and, and_true, reduceIte, Bool.false_eq_true, Bool.true_eq_false, Bool.not_true, Bool.not_false, w_mLst, w_mMake, w_miLst, w_gmUnl, w_mComp, w_mComp2, compL_nil, w_compL, w_mSetF, w_addRR]
      exact fin (fun _ _ => rfl) (w2.sub fun _ _ m => .tail _ m)
/-! ### refusals -/
theorem init_bad (h : ∀ {q : QD} {x : QX}, (∀ S', W n B L S' → q (.bl false) S') → u_are_firsts [d] S q x) (hx : ∀ S', W n B L S' → x ⟨"InvalidMoments", [("given", d)]⟩ S') : u_Moments_init [.ref j, d, e] S q x := by
  rw [e_u_Moments_init, e_b_Moments_init]
  simp only [e_mNext, e_mSeq, e_mExpr, e_mRet, e_mRetN, e_mIfS, e_mBreak, e_mCont, e_mAsg, e_mPar, e_gmName, e_gmNil, e_gmCons, e_gmTup, e_gmSub, e_mVar, e_mC, e_mOp, e_mtB, e_mtT, e_mtNot, e_mtAnd, e_mtOr, e_mAnd, e_mOr, e_mAndT, e_mOrT, e_mIf, e_mNotB, e_mChain, e_maNil, e_maCons, e_mTup, e_mCall, e_mFld, e_mProp, e_mMeth, e_mUnO, e_mBinO, e_mCallO, e_mCMeth, e_mRaise, e_mTry, e_mFn, e_mNeg, e_mIsiB, e_mIsiO, e_mFor, e_miRange1, e_miRange2, e_miRangeW, e_miZip, e_zpT, e_mIsi2, e_miAny, e_seqT, e_powW, e_mAug, e_addI, e_fTupleT, e_mSl00, e_mSl01, e_mSl10, e_mSl11, e_miTup, e_body, e_addII, e_addIB, e_addSS, e_addTT, e_subII, e_mulII, e_fdivII, e_modII, e_powII, e_ltII, e_leII, e_gtII, e_geII, e_is, e_isNot, e_ixT, e_ixS, e_ixD, e_inD, e_fLenS, e_fLenT, e_fMax2, e_fMin2, e_fAbs, e_fIntI, e_fIntB, e_fBoolI, e_fBoolB, e_mExcF, e_tryNil, e_tryCons, e_mBM, e_mEqO, e_mNeO, e_fLenO, e_fBoolO, e_mtTO, e_mInO, e_mNotInO, e_mGetO, e_mSortedSet, e_mLstRg1, e_mDic1, e_mDic0, e_miRange3, e_mtYes, putD, List.getElem?_cons_zero, List.getElem?_cons_succ, List.set_cons_zero, List.set_cons_succ, List.map_cons, List.map_nil, List.length_cons, List.length_nil, List.cons_append, List.nil_append, List.append_nil, List.replicate, Nat.reduceAdd, Nat.reduceSub, Nat.reduceLeDiff, Nat.zero_add, true_and, and_true, reduceIte, Bool.false_eq_true, Bool.true_eq_false, Bool.not_true, Bool.not_false, w_mLst, w_mMake, w_miLst, w_gmUnl, w_mComp, w_mComp2, compL_nil, w_compL, w_mSetF, w_addRR]
  refine h fun S1 w => ?_
  simp only [e_mNext, e_mSeq, e_mExpr, e_mRet, e_mRetN, e_mIfS, e_mBreak, e_mCont, e_mAsg, e_mPar, e_gmName, e_gmNil, e_gmCons, e_gmTup, e_gmSub, e_mVar, e_mC, e_mOp, e_mtB, e_mtT, e_mtNot, e_mtAnd, e_mtOr, e_mAnd, e_mOr, e_mAndT, e_mOrT, e_mIf, e_mNotB, e_mChain, e_maNil, e_maCons, e_mTup, e_mCall, e_mFld, e_mProp, e_mMeth, e_mUnO, e_mBinO, e_mCallO, e_mCMeth, e_mRaise, e_mTry, e_mFn, e_mNeg, e_mIsiB, e_mIsiO, e_mFor, e_miRange1, e_miRange2, e_miRangeW, e_miZip, e_zpT, e_mIsi2, e_miAny, e_seqT, e_powW, e_mAug, e_addI, e_fTupleT, e_mSl00, e_mSl01, e_mSl10, e_mSl11, e_miTup, e_body, e_addII, e_addIB, e_addSS, e_addTT, e_subII, e_mulII, e_fdivII, e_modII, e_powII, e_ltII, e_leII, e_gtII, e_geII, e_is, e_isNot, e_ixT, e_ixS, e_ixD, e_inD, e_fLenS, e_fLenT, e_fMax2, e_fMin2, e_fAbs, e_fIntI, e_fIntB, e_fBoolI, e_fBoolB, e_mExcF, e_tryNil, e_tryCons, e_mBM, e_mEqO, e_mNeO, e_fLenO, e_fBoolO, e_mtTO, e_mInO, e_mNotInO, e_mGetO, e_mSortedSet, e_mLstRg1, e_mDic1, e_mDic0, e_miRange3, e_mtYes, putD, List.getElem?_cons_zero, List.getElem?_cons_succ, List.set_cons_zero, List.set_cons_succ, List.map_cons, List.map_nil, List.length_cons, List.length_nil, List.cons_append, List.nil_append, List.append_nil, List.replicate, Nat.reduceAdd, Nat.reduceSub, Nat.reduceLeDiff, Nat.zero_add, true_and, and_true, reduceIte, Bool.false_eq_true, Bool.true_eq_false, Bool.not_true, Bool.not_false, w_mLst, w_mMake, w_miLst, w_gmUnl, w_mComp, w_mComp2, compL_nil, w_compL, w_mSetF, w_addRR]
  exact hx _ w
theorem init_num (w : W n B L S) (m : (i, .lst (fs.map D.int)) ∈ L) (hl : fs.length ≤ 2000) (h0 : ∀ f ∈ fs, 0 ≤ f) (ha : fs.Pairwise (· < ·)) (o : ∀ S', Okt S' e) (he : isIntD e = false ∨ ∃ i, e = .int i ∧ i < 0) (hx : ∀ S', W n B L S' → x ⟨"InvalidNumber", [("given", e)]⟩ S') : u_Moments_init [.ref j, .ref i, e] S q x := by
  rw [e_u_Moments_init, e_b_Moments_init, e_b_Moments_init_6]
  simp only [e_mNext, e_mSeq, e_mExpr, e_mRet, e_mRetN, e_mIfS, e_mBreak, e_mCont, e_mAsg, e_mPar, e_gmName, e_gmNil, e_gmCons, e_gmTup, e_gmSub, e_mVar, e_mC, e_mOp, e_mtB, e_mtT, e_mtNot, e_mtAnd, e_mtOr, e_mAnd, e_mOr, e_mAndT, e_mOrT, e_mIf, e_mNotB, e_mChain, e_maNil, e_maCons, e_mTup, e_mCall, e_mFld, e_mProp, e_mMeth, e_mUnO, e_mBinO, e_mCallO, e_mCMeth, e_mRaise, e_mTry, e_mFn, e_mNeg, e_mIsiB, e_mIsiO, e_mFor, e_miRange1, e_miRange2, e_miRangeW, e_miZip, e_zpT, e_mIsi2, e_miAny, e_seqT, e_powW, e_mAug, e_addI, e_fTupleT, e_mSl00, e_mSl01, e_mSl10, e_mSl11, e_miTup, e_body, e_addII, e_addIB, e_addSS, e_addTT, e_subII, e_mulII, e_fdivII, e_modII, e_powII, e_ltII, e_leII, e_gtII, e_geII, e_is, e_isNot, e_ixT, e_ixS, e_ixD, e_inD, e_fLenS, e_fLenT, e_fMax2, e_fMin2, e_fAbs, e_fIntI, e_fIntB, e_fBoolI, e_fBoolB, e_mExcF, e_tryNil, e_tryCons, e_mBM, e_mEqO, e_mNeO, e_fLenO, e_fBoolO, e_mtTO, e_mInO, e_mNotInO, e_mGetO, e_mSortedSet, e_mLstRg1, e_mDic1, e_mDic0, e_miRange3, e_mtYes, putD, List.getElem?_cons_zero, List.getElem?_cons_succ, List.set_cons_zero, List.set_cons_succ, List.map_cons, List.map_nil, List.length_cons, List.length_nil, List.cons_append, List.nil_append, List.append_nil, List.replicate, Nat.reduceAdd, Nat.reduceSub, Nat.reduceLeDiff, Nat.zero_add, true_and, and_true, reduceIte, Bool.false_eq_true, Bool.true_eq_false, Bool.not_true, Bool.not_false, w_mLst, w_mMake, w_miLst, w_gmUnl, w_mComp, w_mComp2, compL_nil, w_compL, w_mSetF, w_addRR]
  refine are_firsts_w w m hl fun S1 w1 => ?_
  have e1 : (fs.all fun f => decide (0 ≤ f)) = true := List.all_eq_true.mpr fun f m => decide_eq_true (h0 f m)
  rw [e1, asc_of ha]
  simp only [e_mNext, e_mSeq, e_mExpr, e_mRet, e_mRetN, e_mIfS, e_mBreak, e_mCont, e_mAsg, e_mPar, e_gmName, e_gmNil, e_gmCons, e_gmTup, e_gmSub, e_mVar, e_mC, e_mOp, e_mtB, e_mtT, e_mtNot, e_mtAnd, e_mtOr, e_mAnd, e_mOr, e_mAndT, e_mOrT, e_mIf, e_mNotB, e_mChain, e_maNil, e_maCons, e_mTup, e_mCall, e_mFld, e_mProp, e_mMeth, e_mUnO, e_mBinO, e_mCallO, e_mCMeth, e_mRaise, e_mTry, e_mFn, e_mNeg, e_mIsiB, e_mIsiO, e_mFor, e_miRange1, e_miRange2, e_miRangeW, e_miZip, e_zpT, e_mIsi2, e_miAny, e_seqT, e_powW, e_mAug, e_addI, e_fTupleT, e_mSl00, e_mSl01, e_mSl10, e_mSl11, e_miTup, e_body, e_addII, e_addIB, e_addSS, e_addTT, e_subII, e_mulII, e_fdivII, e_modII, e_powII, e_ltII, e_leII, e_gtII, e_geII, e_is, e_isNot, e_ixT, e_ixS, e_ixD, e_inD, e_fLenS, e_fLenT, e_fMax2, e_fMin2, e_fAbs, e_fIntI, e_fIntB, e_fBoolI, e_fBoolB, e_mExcF, e_tryNil, e_tryCons, e_mBM, e_mEqO, e_mNeO, e_fLenO, e_fBoolO, e_mtTO, e_mInO, e_mNotInO, e_mGetO, e_mSortedSet, e_mLstRg1, e_mDic1, e_mDic0, e_miRange3, e_mtYes, putD, List.getElem?_cons_zero, List.getElem?_cons_succ, List.set_cons_zero, List.set_cons_succ, List.map_cons, List.map_nil, List.length_cons, List.length_nil, List.cons_append, List.nil_append, List.append_nil, List.replicate, Nat.reduceAdd, Nat.reduceSub, Nat.reduceLeDiff, Nat.zero_add, true_and, and_true, reduceIte, Bool.false_eq_true, Bool.true_eq_false, Bool.not_true, Bool.not_false, w_mLst, w_mMake, w_miLst, w_gmUnl, w_mComp, w_mComp2, compL_nil, w_compL, w_mSetF, w_addRR, Bool.and_self]
  refine check_least_ok (o _) (fun i e2 hi => ?_) (fun _ => hx _ w1)
  subst e2
  rcases he with he | ⟨i', e2, he⟩
  · cases he
  · cases e2; omega
theorem init_lim (w : W n B L S) (m : (i, .lst (fs.map D.int)) ∈ L) (hl : fs.length ≤ 2000) (h0 : ∀ f ∈ fs, 0 ≤ f) (ha : fs.Pairwise (· < ·)) (hp : 0 < p) (hlt : ¬ ∀ f ∈ fs, f < p) (hx : ∀ S', W n B L S' → x ⟨"InvalidMoments", [("given", .ref i)]⟩ S') : u_Moments_init [.ref j, .ref i, .int p] S q x := by
  rw [e_u_Moments_init, e_b_Moments_init, e_b_Moments_init_6, e_b_Moments_init_5]
  simp only [e_mNext, e_mSeq, e_mExpr, e_mRet, e_mRetN, e_mIfS, e_mBreak, e_mCont, e_mAsg, e_mPar, e_gmName, e_gmNil, e_gmCons, e_gmTup, e_gmSub, e_mVar, e_mC, e_mOp, e_mtB, e_mtT, e_mtNot, e_mtAnd, e_mtOr, e_mAnd, e_mOr, e_mAndT, e_mOrT, e_mIf, e_mNotB, e_mChain, e_maNil, e_maCons, e_mTup, e_mCall, e_mFld, e_mProp, e_mMeth, e_mUnO, e_mBinO, e_mCallO, e_mCMeth, e_mRaise, e_mTry, e_mFn, e_mNeg, e_mIsiB, e_mIsiO, e_mFor, e_miRange1, e_miRange2, e_miRangeW, e_miZip, e_zpT, e_mIsi2, e_miAny, e_seqT, e_powW, e_mAug, e_addI, e_fTupleT, e_mSl00, e_mSl01, e_mSl10, e_mSl11, e_miTup, e_body, e_addII, e_addIB, e_addSS, e_addTT, e_subII, e_mulII, e_fdivII, e_modII, e_powII, e_ltII, e_leII, e_gtII, e_geII, e_is, e_isNot, e_ixT, e_ixS, e_ixD, e_inD, e_fLenS, e_fLenT, e_fMax2, e_fMin2, e_fAbs, e_fIntI, e_fIntB, e_fBoolI, e_fBoolB, e_mExcF, e_tryNil, e_tryCons, e_mBM, e_mEqO, e_mNeO, e_fLenO, e_fBoolO, e_mtTO, e_mInO, e_mNotInO, e_mGetO, e_mSortedSet, e_mLstRg1, e_mDic1, e_mDic0, e_miRange3, e_mtYes, putD, List.getElem?_cons_zero, List.getElem?_cons_succ, List.set_cons_zero, List.set_cons_succ, List.map_cons, List.map_nil, List.length_cons, List.length_nil, List.cons_append, List.nil_append, List.append_nil, List.replicate, Nat.reduceAdd, Nat.reduceSub, Nat.reduceLeDiff, Nat.zero_add, true_and, and_true, reduceIte, Bool.false_eq_true, Bool.true_eq_false, Bool.not_true, Bool.not_false, w_mLst, w_mMake, w_miLst, w_gmUnl, w_mComp, w_mComp2, compL_nil, w_compL, w_mSetF, w_addRR]
  refine are_firsts_w w m hl fun S1 w1 => ?_
  have e1 : (fs.all fun f => decide (0 ≤ f)) = true := List.all_eq_true.mpr fun f m => decide_eq_true (h0 f m)
  rw [e1, asc_of ha]
  simp only [e_mNext, e_mSeq, e_mExpr, e_mRet, e_mRetN, e_mIfS, e_mBreak, e_mCont, e_mAsg, e_mPar, e_gmName, e_gmNil, e_gmCons, e_gmTup, e_gmSub, e_mVar, e_mC, e_mOp, e_mtB, e_mtT, e_mtNot, e_mtAnd, e_mtOr, e_mAnd, e_mOr, e_mAndT, e_mOrT, e_mIf, e_mNotB, e_mChain, e_maNil, e_maCons, e_mTup, e_mCall, e_mFld, e_mProp, e_mMeth, e_mUnO, e_mBinO, e_mCallO, e_mCMeth, e_mRaise, e_mTry, e_mFn, e_mNeg, e_mIsiB, e_mIsiO, e_mFor, e_miRange1, e_miRange2, e_miRangeW, e_miZip, e_zpT, e_mIsi2, e_miAny, e_seqT, e_powW, e_mAug, e_addI, e_fTupleT, e_mSl00, e_mSl01, e_mSl10, e_mSl11, e_miTup, e_body, e_addII, e_addIB, e_addSS, e_addTT, e_subII, e_mulII, e_fdivII, e_modII, e_powII, e_ltII, e_leII, e_gtII, e_geII, e_is, e_isNot, e_ixT, e_ixS, e_ixD, e_inD, e_fLenS, e_fLenT, e_fMax2, e_fMin2, e_fAbs, e_fIntI, e_fIntB, e_fBoolI, e_fBoolB, e_mExcF, e_tryNil, e_tryCons, e_mBM, e_mEqO, e_mNeO, e_fLenO, e_fBoolO, e_mtTO, e_mInO, e_mNotInO, e_mGetO, e_mSortedSet, e_mLstRg1, e_mDic1, e_mDic0, e_miRange3, e_mtYes, putD, List.getElem?_cons_zero, List.getElem?_cons_succ, List.set_cons_zero, List.set_cons_succ, List.map_cons, List.map_nil, List.length_cons, List.length_nil, List.cons_append, List.nil_append, List.append_nil, List.replicate, Nat.reduceAdd, Nat.reduceSub, Nat.reduceLeDiff, Nat.zero_add, true_and, and_true, reduceIte, Bool.false_eq_true, Bool.true_eq_false, Bool.not_true, Bool.not_false, w_mLst, w_mMake, w_miLst, w_gmUnl, w_mComp, w_mComp2, compL_nil, w_compL, w_mSetF, w_addRR, Bool.and_self]
  refine check_least_ok True.intro (fun _ _ _ => ?_) (fun e => by
    rcases e with e | ⟨i, e, h⟩
    · cases e
    · cases e; omega)
  try simp only [e_mNext, e_mSeq, e_mExpr, e_mRet, e_mRetN, e_mIfS, e_mBreak, e_mCont, e_mAsg, e_mPar, e_gmName, e_gmNil, e_gmCons, e_gmTup, e_gmSub, e_mVar, e_mC, e_mOp, e_mtB, e_mtT, e_mtNot, e_mtAnd, e_mtOr, e_mAnd, e_mOr, e_mAndT, e_mOrT, e_mIf, e_mNotB, e_mChain, e_maNil, e_maCons, e_mTup, e_mCall, e_mFld, e_mProp, e_mMeth, e_mUnO, e_mBinO, e_mCallO, e_mCMeth, e_mRaise, e_mTry, e_mFn, e_mNeg, e_mIsiB, e_mIsiO, e_mFor, e_miRange1, e_miRange2, e_miRangeW, e_miZip, e_zpT, e_mIsi2, e_miAny, e_seqT, e_powW, e_mAug, e_addI, e_fTupleT, e_mSl00, e_mSl01, e_mSl10, e_mSl11, e_miTup, e_body, e_addII, e_addIB, e_addSS, e_addTT, e_subII, e_mulII, e_fdivII, e_modII, e_powII, e_ltII, e_leII, e_gtII, e_geII, e_is, e_isNot, e_ixT, e_ixS, e_ixD, e_inD, e_fLenS, e_fLenT, e_fMax2, e_fMin2, e_fAbs, e_fIntI, e_fIntB, e_fBoolI, e_fBoolB, e_mExcF, e_tryNil, e_tryCons, e_mBM, e_mEqO, e_mNeO, e_fLenO, e_fBoolO, e_mtTO, e_mInO, e_mNotInO, e_mGetO, e_mSortedSet, e_mLstRg1, e_mDic1, e_mDic0, e_miRange3, e_mtYes, putD, List.getElem?_cons_zero, List.getElem?_cons_succ, List.set_cons_zero, List.set_cons_succ, List.map_cons, List.map_nil, List.length_cons, List.length_nil, List.cons_append, List.nil_append, List.append_nil, List.replicate, Nat.reduceAdd, Nat.reduceSub, Nat.reduceLeDiff, Nat.zero_add, true_and, and_true, reduceIte, Bool.false_eq_true, Bool.true_eq_false, Bool.not_true, Bool.not_false, w_mLst, w_mMake, w_miLst, w_gmUnl, w_mComp, w_mComp2, compL_nil, w_compL, w_mSetF, w_addRR]
  rw [if_pos (decide_eq_true hp)]
  simp only [wipeD, List.set_cons_succ, List.set_cons_zero]
  refine seq_w' w1 m ?_
  refine compA D.int (fun v => some (D.bl (decide (v < p)))) (w1.get m) fs [] (by simp; omega) (fun v _ acc C hl h => ?_) ?_
  · simp only [e_mNext, e_mSeq, e_mExpr, e_mRet, e_mRetN, e_mIfS, e_mBreak, e_mCont, e_mAsg, e_mPar, e_gmName, e_gmNil, e_gmCons, e_gmTup, e_gmSub, e_mVar, e_mC, e_mOp, e_mtB, e_mtT, e_mtNot, e_mtAnd, e_mtOr, e_mAnd, e_mOr, e_mAndT, e_mOrT, e_mIf, e_mNotB, e_mChain, e_maNil, e_maCons, e_mTup, e_mCall, e_mFld, e_mProp, e_mMeth, e_mUnO, e_mBinO, e_mCallO, e_mCMeth, e_mRaise, e_mTry, e_mFn, e_mNeg, e_mIsiB, e_mIsiO, e_mFor, e_miRange1, e_miRange2, e_miRangeW, e_miZip, e_zpT, e_mIsi2, e_miAny, e_seqT, e_powW, e_mAug, e_addI, e_fTupleT, e_mSl00, e_mSl01, e_mSl10, e_mSl11, e_miTup, e_body, e_addII, e_addIB, e_addSS, e_addTT, e_subII, e_mulII, e_fdivII, e_modII, e_powII, e_ltII, e_leII, e_gtII, e_geII, e_is, e_isNot, e_ixT, e_ixS, e_ixD, e_inD, e_fLenS, e_fLenT, e_fMax2, e_fMin2, e_fAbs, e_fIntI, e_fIntB, e_fBoolI, e_fBoolB, e_mExcF, e_tryNil, e_tryCons, e_mBM, e_mEqO, e_mNeO, e_fLenO, e_fBoolO, e_mtTO, e_mInO, e_mNotInO, e_mGetO, e_mSortedSet, e_mLstRg1, e_mDic1, e_mDic0, e_miRange3, e_mtYes, putD, List.getElem?_cons_zero, List.getElem?_cons_succ, List.set_cons_zero, List.set_cons_succ, List.map_cons, List.map_nil, List.length_cons, List.length_nil, List.cons_append, List.nil_append, List.append_nil, List.replicate, Nat.reduceAdd, Nat.reduceSub, Nat.reduceLeDiff, Nat.zero_add, true_and, and_true, reduceIte, Bool.false_eq_true, Bool.true_eq_false, Bool.not_true, Bool.not_false, w_mLst, w_mMake, w_miLst, w_gmUnl, w_mComp, w_mComp2, compL_nil, w_compL, w_mSetF, w_addRR]
    exact ⟨hl, h⟩
  · rw [List.nil_append, map_some]
    intro j2 S2 e2 e3
    have w2 := w1.new e2 e3
    refine all_w (bs := fs.map fun v => decide (v < p)) w2 (by rw [List.map_map]; exact List.mem_cons_self) ?_
    have e4 : ((fs.map fun v => decide (v < p)).all id) = false := by
      cases h : ((fs.map fun v => decide (v < p)).all id) with
      | false => rfl
      | true =>
        exfalso
        rw [List.all_map, List.all_eq_true] at h
        exact hlt fun f m => of_decide_eq_true (h f m)
    simp only [e4, e_mNext, e_mSeq, e_mExpr, e_mRet, e_mRetN, e_mIfS, e_mBreak, e_mCont, e_mAsg, e_mPar, e_gmName, e_gmNil, e_gmCons, e_gmTup, e_gmSub, e_mVar, e_mC, e_mOp, e_mtB, e_mtT, e_mtNot, e_mtAnd, e_mtOr, e_mAnd, e_mOr, e_mAndT, e_mOrT, e_mIf, e_mNotB, e_mChain, e_maNil, e_maCons, e_mTup, e_mCall, e_mFld, e_mProp, e_mMeth, e_mUnO, e_mBinO, e_mCallO, e_mCMeth, e_mRaise, e_mTry, e_mFn, e_mNeg, e_mIsiB, e_mIsiO, e_mFor, e_miRange1, e_miRange2, e_miRangeW, e_miZip, e_zpT, e_mIsi2, e_miAny, e_seqT, e_powW, e_mAug, e_addI, e_fTupleT, e_mSl00, e_mSl01, e_mSl10, e_mSl11, e_miTup, e_body, e_addII, e_addIB, e_addSS, e_addTT, e_subII, e_mulII, e_fdivII, e_modII, e_powII, e_ltII, e_leII, e_gtII, e_geII, e_is, e_isNot, e_ixT, e_ixS, e_ixD, e_inD, e_fLenS, e_fLenT, e_fMax2, e_fMin2, e_fAbs, e_fIntI, e_fIntB, e_fBoolI, e_fBoolB, e_mExcF, e_tryNil, e_tryCons, e_mBM, e_mEqO, e_mNeO, e_fLenO, e_fBoolO, e_mtTO, e_mInO, e_mNotInO, e_mGetO, e_mSortedSet, e_mLstRg1, e_mDic1, e_mDic0, e_miRange3, e_mtYes, putD, List.getElem?_cons_zero, List.getElem?_cons_succ, List.set_cons_zero, List.set_cons_succ, List.map_cons, List.map_nil, List.length_cons, List.length_nil, List.cons_append, List.nil_append, List.append_nil, List.replicate, Nat.reduceAdd, Nat.reduceSub, Nat.reduceLeDiff, Nat.zero_add, true_and, and_true, reduceIte, Bool.false_eq_true, Bool.true_eq_false, Bool.not_true, Bool.not_false, w_mLst, w_mMake, w_miLst, w_gmUnl, w_mComp, w_mComp2, compL_nil, w_compL, w_mSetF, w_addRR]
    exact hx _ (w2.sub fun _ _ m => .tail _ m)
/-- shown by repr as z -/
structure Shw (S : Sto) (d : D) (z : Str) : Prop where
  rep : ∀ {q : QD}, q (.str z) S → fRepr [d] S q
  sk : PyData.strOk z = true
theorem Odd.shw {P : PyData} (o : Odd S d P) : Shw S d P.shown := ⟨fun h => by rw [e_fRepr, o.tr]; exact ⟨o.rp, h⟩, o.sk⟩
theorem tb2 {a b : Bool} : List.lookup ("InvalidMoments" : Str) [("InvalidMoments", a), ("InvalidNumber", b)] = some a ∧ List.lookup ("InvalidNumber" : Str) [("InvalidMoments", a), ("InvalidNumber", b)] = some b := by
  have h2 : (("InvalidNumber" : Str) == "InvalidMoments") = false := by decide
  simp [List.lookup, h2]
theorem said_M (hi : ∀ {K : QD} {X : QX}, (∀ S', W n B L S' → X ⟨"InvalidMoments", [("given", d)]⟩ S') → u_Moments_init [.ref S.length, d, e] (S ++ [.ins "Moments" []]) K X) (hz : ∀ S', W n B L S' → Shw S' d z)
    (hq : ∀ i S', W n B ((i, .lst [.str "some", .str z]) :: L) S' → q (.ref i) S') : u__law_said [d, e] S q x := by
  rw [e_u__law_said, e_b__law_said, e_b__law_said_1]
  simp only [e_mNext, e_mSeq, e_mExpr, e_mRet, e_mRetN, e_mIfS, e_mBreak, e_mCont, e_mAsg, e_mPar, e_gmName, e_gmNil, e_gmCons, e_gmTup, e_gmSub, e_mVar, e_mC, e_mOp, e_mtB, e_mtT, e_mtNot, e_mtAnd, e_mtOr, e_mAnd, e_mOr, e_mAndT, e_mOrT, e_mIf, e_mNotB, e_mChain, e_maNil, e_maCons, e_mTup, e_mCall, e_mFld, e_mProp, e_mMeth, e_mUnO, e_mBinO, e_mCallO, e_mCMeth, e_mRaise, e_mTry, e_mFn, e_mNeg, e_mIsiB, e_mIsiO, e_mFor, e_miRange1, e_miRange2, e_miRangeW, e_miZip, e_zpT, e_mIsi2, e_miAny, e_seqT, e_powW, e_mAug, e_addI, e_fTupleT, e_mSl00, e_mSl01, e_mSl10, e_mSl11, e_miTup, e_body, e_addII, e_addIB, e_addSS, e_addTT, e_subII, e_mulII, e_fdivII, e_modII, e_powII, e_ltII, e_leII, e_gtII, e_geII, e_is, e_isNot, e_ixT, e_ixS, e_ixD, e_inD, e_fLenS, e_fLenT, e_fMax2, e_fMin2, e_fAbs, e_fIntI, e_fIntB, e_fBoolI, e_fBoolB, e_mExcF, e_tryNil, e_tryCons, e_mBM, e_mEqO, e_mNeO, e_fLenO, e_fBoolO, e_mtTO, e_mInO, e_mNotInO, e_mGetO, e_mSortedSet, e_mLstRg1, e_mDic1, e_mDic0, e_miRange3, e_mtYes, putD, List.getElem?_cons_zero, List.getElem?_cons_succ, List.set_cons_zero, List.set_cons_succ, List.map_cons, List.map_nil, List.length_cons, List.length_nil, List.cons_append, List.nil_append, List.append_nil, List.replicate, Nat.reduceAdd, Nat.reduceSub, Nat.reduceLeDiff, Nat.zero_add, true_and, and_true, reduceIte, Bool.false_eq_true, Bool.true_eq_false, Bool.not_true, Bool.not_false, w_mLst, w_mMake, w_miLst, w_gmUnl, w_mComp, w_mComp2, compL_nil, w_compL, w_mSetF, w_addRR]
  intro j S1 ej eS
  subst ej eS
  refine hi fun S2 w => ?_
  simp only [e_mNext, e_mSeq, e_mExpr, e_mRet, e_mRetN, e_mIfS, e_mBreak, e_mCont, e_mAsg, e_mPar, e_gmName, e_gmNil, e_gmCons, e_gmTup, e_gmSub, e_mVar, e_mC, e_mOp, e_mtB, e_mtT, e_mtNot, e_mtAnd, e_mtOr, e_mAnd, e_mOr, e_mAndT, e_mOrT, e_mIf, e_mNotB, e_mChain, e_maNil, e_maCons, e_mTup, e_mCall, e_mFld, e_mProp, e_mMeth, e_mUnO, e_mBinO, e_mCallO, e_mCMeth, e_mRaise, e_mTry, e_mFn, e_mNeg, e_mIsiB, e_mIsiO, e_mFor, e_miRange1, e_miRange2, e_miRangeW, e_miZip, e_zpT, e_mIsi2, e_miAny, e_seqT, e_powW, e_mAug, e_addI, e_fTupleT, e_mSl00, e_mSl01, e_mSl10, e_mSl11, e_miTup, e_body, e_addII, e_addIB, e_addSS, e_addTT, e_subII, e_mulII, e_fdivII, e_modII, e_powII, e_ltII, e_leII, e_gtII, e_geII, e_is, e_isNot, e_ixT, e_ixS, e_ixD, e_inD, e_fLenS, e_fLenT, e_fMax2, e_fMin2, e_fAbs, e_fIntI, e_fIntB, e_fBoolI, e_fBoolB, e_mExcF, e_tryNil, e_tryCons, e_mBM, e_mEqO, e_mNeO, e_fLenO, e_fBoolO, e_mtTO, e_mInO, e_mNotInO, e_mGetO, e_mSortedSet, e_mLstRg1, e_mDic1, e_mDic0, e_miRange3, e_mtYes, putD, List.getElem?_cons_zero, List.getElem?_cons_succ, List.set_cons_zero, List.set_cons_succ, List.map_cons, List.map_nil, List.length_cons, List.length_nil, List.cons_append, List.nil_append, List.append_nil, List.replicate, Nat.reduceAdd, Nat.reduceSub, Nat.reduceLeDiff, Nat.zero_add, true_and, and_true, reduceIte, Bool.false_eq_true, Bool.true_eq_false, Bool.not_true, Bool.not_false, w_mLst, w_mMake, w_miLst, w_gmUnl, w_mComp, w_mComp2, compL_nil, w_compL, w_mSetF, w_addRR, tb2.1]
  intro ad
  simp only [e_mNext, e_mSeq, e_mExpr, e_mRet, e_mRetN, e_mIfS, e_mBreak, e_mCont, e_mAsg, e_mPar, e_gmName, e_gmNil, e_gmCons, e_gmTup, e_gmSub, e_mVar, e_mC, e_mOp, e_mtB, e_mtT, e_mtNot, e_mtAnd, e_mtOr, e_mAnd, e_mOr, e_mAndT, e_mOrT, e_mIf, e_mNotB, e_mChain, e_maNil, e_maCons, e_mTup, e_mCall, e_mFld, e_mProp, e_mMeth, e_mUnO, e_mBinO, e_mCallO, e_mCMeth, e_mRaise, e_mTry, e_mFn, e_mNeg, e_mIsiB, e_mIsiO, e_mFor, e_miRange1, e_miRange2, e_miRangeW, e_miZip, e_zpT, e_mIsi2, e_miAny, e_seqT, e_powW, e_mAug, e_addI, e_fTupleT, e_mSl00, e_mSl01, e_mSl10, e_mSl11, e_miTup, e_body, e_addII, e_addIB, e_addSS, e_addTT, e_subII, e_mulII, e_fdivII, e_modII, e_powII, e_ltII, e_leII, e_gtII, e_geII, e_is, e_isNot, e_ixT, e_ixS, e_ixD, e_inD, e_fLenS, e_fLenT, e_fMax2, e_fMin2, e_fAbs, e_fIntI, e_fIntB, e_fBoolI, e_fBoolB, e_mExcF, e_tryNil, e_tryCons, e_mBM, e_mEqO, e_mNeO, e_fLenO, e_fBoolO, e_mtTO, e_mInO, e_mNotInO, e_mGetO, e_mSortedSet, e_mLstRg1, e_mDic1, e_mDic0, e_miRange3, e_mtYes, putD, List.getElem?_cons_zero, List.getElem?_cons_succ, List.set_cons_zero, List.set_cons_succ, List.map_cons, List.map_nil, List.length_cons, List.length_nil, List.cons_append, List.nil_append, List.append_nil, List.replicate, Nat.reduceAdd, Nat.reduceSub, Nat.reduceLeDiff, Nat.zero_add, true_and, and_true, reduceIte, Bool.false_eq_true, Bool.true_eq_false, Bool.not_true, Bool.not_false, w_mLst, w_mMake, w_miLst, w_gmUnl, w_mComp, w_mComp2, compL_nil, w_compL, w_mSetF, w_addRR, inS, lk_given]
  refine (hz _ w).rep ?_
  try simp only [e_mNext, e_mSeq, e_mExpr, e_mRet, e_mRetN, e_mIfS, e_mBreak, e_mCont, e_mAsg, e_mPar, e_gmName, e_gmNil, e_gmCons, e_gmTup, e_gmSub, e_mVar, e_mC, e_mOp, e_mtB, e_mtT, e_mtNot, e_mtAnd, e_mtOr, e_mAnd, e_mOr, e_mAndT, e_mOrT, e_mIf, e_mNotB, e_mChain, e_maNil, e_maCons, e_mTup, e_mCall, e_mFld, e_mProp, e_mMeth, e_mUnO, e_mBinO, e_mCallO, e_mCMeth, e_mRaise, e_mTry, e_mFn, e_mNeg, e_mIsiB, e_mIsiO, e_mFor, e_miRange1, e_miRange2, e_miRangeW, e_miZip, e_zpT, e_mIsi2, e_miAny, e_seqT, e_powW, e_mAug, e_addI, e_fTupleT, e_mSl00, e_mSl01, e_mSl10, e_mSl11, e_miTup, e_body, e_addII, e_addIB, e_addSS, e_addTT, e_subII, e_mulII, e_fdivII, e_modII, e_powII, e_ltII, e_leII, e_gtII, e_geII, e_is, e_isNot, e_ixT, e_ixS, e_ixD, e_inD, e_fLenS, e_fLenT, e_fMax2, e_fMin2, e_fAbs, e_fIntI, e_fIntB, e_fBoolI, e_fBoolB, e_mExcF, e_tryNil, e_tryCons, e_mBM, e_mEqO, e_mNeO, e_fLenO, e_fBoolO, e_mtTO, e_mInO, e_mNotInO, e_mGetO, e_mSortedSet, e_mLstRg1, e_mDic1, e_mDic0, e_miRange3, e_mtYes, putD, List.getElem?_cons_zero, List.getElem?_cons_succ, List.set_cons_zero, List.set_cons_succ, List.map_cons, List.map_nil, List.length_cons, List.length_nil, List.cons_append, List.nil_append, List.append_nil, List.replicate, Nat.reduceAdd, Nat.reduceSub, Nat.reduceLeDiff, Nat.zero_add, true_and, and_true, reduceIte, Bool.false_eq_true, Bool.true_eq_false, Bool.not_true, Bool.not_false, w_mLst, w_mMake, w_miLst, w_gmUnl, w_mComp, w_mComp2, compL_nil, w_compL, w_mSetF, w_addRR]
  exact ⟨(sl_pos (by simp)), fun j S3 e1 e2 => hq j S3 (w.new e1 e2)⟩
theorem said_N (hi : ∀ {K : QD} {X : QX}, (∀ S', W n B L S' → X ⟨"InvalidNumber", [("given", e)]⟩ S') → u_Moments_init [.ref S.length, d, e] (S ++ [.ins "Moments" []]) K X) (hz : ∀ S', W n B L S' → Shw S' e z)
    (hq : ∀ i S', W n B ((i, .lst [.str "number", .str z]) :: L) S' → q (.ref i) S') : u__law_said [d, e] S q x := by
  rw [e_u__law_said, e_b__law_said, e_b__law_said_1]
  simp only [e_mNext, e_mSeq, e_mExpr, e_mRet, e_mRetN, e_mIfS, e_mBreak, e_mCont, e_mAsg, e_mPar, e_gmName, e_gmNil, e_gmCons, e_gmTup, e_gmSub, e_mVar, e_mC, e_mOp, e_mtB, e_mtT, e_mtNot, e_mtAnd, e_mtOr, e_mAnd, e_mOr, e_mAndT, e_mOrT, e_mIf, e_mNotB, e_mChain, e_maNil, e_maCons, e_mTup, e_mCall, e_mFld, e_mProp, e_mMeth, e_mUnO, e_mBinO, e_mCallO, e_mCMeth, e_mRaise, e_mTry, e_mFn, e_mNeg, e_mIsiB, e_mIsiO, e_mFor, e_miRange1, e_miRange2, e_miRangeW, e_miZip, e_zpT, e_mIsi2, e_miAny, e_seqT, e_powW, e_mAug, e_addI, e_fTupleT, e_mSl00, e_mSl01, e_mSl10, e_mSl11, e_miTup, e_body, e_addII, e_addIB, e_addSS, e_addTT, e_subII, e_mulII, e_fdivII, e_modII, e_powII, e_ltII, e_leII, e_gtII, e_geII, e_is, e_isNot, e_ixT, e_ixS, e_ixD, e_inD, e_fLenS, e_fLenT, e_fMax2, e_fMin2, e_fAbs, e_fIntI, e_fIntB, e_fBoolI, e_fBoolB, e_mExcF, e_tryNil, e_tryCons, e_mBM, e_mEqO, e_mNeO, e_fLenO, e_fBoolO, e_mtTO, e_mInO, e_mNotInO, e_mGetO, e_mSortedSet, e_mLstRg1, e_mDic1, e_mDic0, e_miRange3, e_mtYes, putD, List.getElem?_cons_zero, List.getElem?_cons_succ, List.set_cons_zero, List.set_cons_succ, List.map_cons, List.map_nil, List.length_cons, List.length_nil, List.cons_append, List.nil_append, List.append_nil, List.replicate, Nat.reduceAdd, Nat.reduceSub, Nat.reduceLeDiff, Nat.zero_add, true_and, and_true, reduceIte, Bool.false_eq_true, Bool.true_eq_false, Bool.not_true, Bool.not_false, w_mLst, w_mMake, w_miLst, w_gmUnl, w_mComp, w_mComp2, compL_nil, w_compL, w_mSetF, w_addRR]
  intro j S1 ej eS
  subst ej eS
  refine hi fun S2 w => ?_
  simp only [e_mNext, e_mSeq, e_mExpr, e_mRet, e_mRetN, e_mIfS, e_mBreak, e_mCont, e_mAsg, e_mPar, e_gmName, e_gmNil, e_gmCons, e_gmTup, e_gmSub, e_mVar, e_mC, e_mOp, e_mtB, e_mtT, e_mtNot, e_mtAnd, e_mtOr, e_mAnd, e_mOr, e_mAndT, e_mOrT, e_mIf, e_mNotB, e_mChain, e_maNil, e_maCons, e_mTup, e_mCall, e_mFld, e_mProp, e_mMeth, e_mUnO, e_mBinO, e_mCallO, e_mCMeth, e_mRaise, e_mTry, e_mFn, e_mNeg, e_mIsiB, e_mIsiO, e_mFor, e_miRange1, e_miRange2, e_miRangeW, e_miZip, e_zpT, e_mIsi2, e_miAny, e_seqT, e_powW, e_mAug, e_addI, e_fTupleT, e_mSl00, e_mSl01, e_mSl10, e_mSl11, e_miTup, e_body, e_addII, e_addIB, e_addSS, e_addTT, e_subII, e_mulII, e_fdivII, e_modII, e_powII, e_ltII, e_leII, e_gtII, e_geII, e_is, e_isNot, e_ixT, e_ixS, e_ixD, e_inD, e_fLenS, e_fLenT, e_fMax2, e_fMin2, e_fAbs, e_fIntI, e_fIntB, e_fBoolI, e_fBoolB, e_mExcF, e_tryNil, e_tryCons, e_mBM, e_mEqO, e_mNeO, e_fLenO, e_fBoolO, e_mtTO, e_mInO, e_mNotInO, e_mGetO, e_mSortedSet, e_mLstRg1, e_mDic1, e_mDic0, e_miRange3, e_mtYes, putD, List.getElem?_cons_zero, List.getElem?_cons_succ, List.set_cons_zero, List.set_cons_succ, List.map_cons, List.map_nil, List.length_cons, List.length_nil, List.cons_append, List.nil_append, List.append_nil, List.replicate, Nat.reduceAdd, Nat.reduceSub, Nat.reduceLeDiff, Nat.zero_add, true_and, and_true, reduceIte, Bool.false_eq_true, Bool.true_eq_false, Bool.not_true, Bool.not_false, w_mLst, w_mMake, w_miLst, w_gmUnl, w_mComp, w_mComp2, compL_nil, w_compL, w_mSetF, w_addRR, tb2.2]
  intro ad
  simp only [e_mNext, e_mSeq, e_mExpr, e_mRet, e_mRetN, e_mIfS, e_mBreak, e_mCont, e_mAsg, e_mPar, e_gmName, e_gmNil, e_gmCons, e_gmTup, e_gmSub, e_mVar, e_mC, e_mOp, e_mtB, e_mtT, e_mtNot, e_mtAnd, e_mtOr, e_mAnd, e_mOr, e_mAndT, e_mOrT, e_mIf, e_mNotB, e_mChain, e_maNil, e_maCons, e_mTup, e_mCall, e_mFld, e_mProp, e_mMeth, e_mUnO, e_mBinO, e_mCallO, e_mCMeth, e_mRaise, e_mTry, e_mFn, e_mNeg, e_mIsiB, e_mIsiO, e_mFor, e_miRange1, e_miRange2, e_miRangeW, e_miZip, e_zpT, e_mIsi2, e_miAny, e_seqT, e_powW, e_mAug, e_addI, e_fTupleT, e_mSl00, e_mSl01, e_mSl10, e_mSl11, e_miTup, e_body, e_addII, e_addIB, e_addSS, e_addTT, e_subII, e_mulII, e_fdivII, e_modII, e_powII, e_ltII, e_leII, e_gtII, e_geII, e_is, e_isNot, e_ixT, e_ixS, e_ixD, e_inD, e_fLenS, e_fLenT, e_fMax2, e_fMin2, e_fAbs, e_fIntI, e_fIntB, e_fBoolI, e_fBoolB, e_mExcF, e_tryNil, e_tryCons, e_mBM, e_mEqO, e_mNeO, e_fLenO, e_fBoolO, e_mtTO, e_mInO, e_mNotInO, e_mGetO, e_mSortedSet, e_mLstRg1, e_mDic1, e_mDic0, e_miRange3, e_mtYes, putD, List.getElem?_cons_zero, List.getElem?_cons_succ, List.set_cons_zero, List.set_cons_succ, List.map_cons, List.map_nil, List.length_cons, List.length_nil, List.cons_append, List.nil_append, List.append_nil, List.replicate, Nat.reduceAdd, Nat.reduceSub, Nat.reduceLeDiff, Nat.zero_add, true_and, and_true, reduceIte, Bool.false_eq_true, Bool.true_eq_false, Bool.not_true, Bool.not_false, w_mLst, w_mMake, w_miLst, w_gmUnl, w_mComp, w_mComp2, compL_nil, w_compL, w_mSetF, w_addRR, inS, lk_given]
  refine (hz _ w).rep ?_
  try simp only [e_mNext, e_mSeq, e_mExpr, e_mRet, e_mRetN, e_mIfS, e_mBreak, e_mCont, e_mAsg, e_mPar, e_gmName, e_gmNil, e_gmCons, e_gmTup, e_gmSub, e_mVar, e_mC, e_mOp, e_mtB, e_mtT, e_mtNot, e_mtAnd, e_mtOr, e_mAnd, e_mOr, e_mAndT, e_mOrT, e_mIf, e_mNotB, e_mChain, e_maNil, e_maCons, e_mTup, e_mCall, e_mFld, e_mProp, e_mMeth, e_mUnO, e_mBinO, e_mCallO, e_mCMeth, e_mRaise, e_mTry, e_mFn, e_mNeg, e_mIsiB, e_mIsiO, e_mFor, e_miRange1, e_miRange2, e_miRangeW, e_miZip, e_zpT, e_mIsi2, e_miAny, e_seqT, e_powW, e_mAug, e_addI, e_fTupleT, e_mSl00, e_mSl01, e_mSl10, e_mSl11, e_miTup, e_body, e_addII, e_addIB, e_addSS, e_addTT, e_subII, e_mulII, e_fdivII, e_modII, e_powII, e_ltII, e_leII, e_gtII, e_geII, e_is, e_isNot, e_ixT, e_ixS, e_ixD, e_inD, e_fLenS, e_fLenT, e_fMax2, e_fMin2, e_fAbs, e_fIntI, e_fIntB, e_fBoolI, e_fBoolB, e_mExcF, e_tryNil, e_tryCons, e_mBM, e_mEqO, e_mNeO, e_fLenO, e_fBoolO, e_mtTO, e_mInO, e_mNotInO, e_mGetO, e_mSortedSet, e_mLstRg1, e_mDic1, e_mDic0, e_miRange3, e_mtYes, putD, List.getElem?_cons_zero, List.getElem?_cons_succ, List.set_cons_zero, List.set_cons_succ, List.map_cons, List.map_nil, List.length_cons, List.length_nil, List.cons_append, List.nil_append, List.append_nil, List.replicate, Nat.reduceAdd, Nat.reduceSub, Nat.reduceLeDiff, Nat.zero_add, true_and, and_true, reduceIte, Bool.false_eq_true, Bool.true_eq_false, Bool.not_true, Bool.not_false, w_mLst, w_mMake, w_miLst, w_gmUnl, w_mComp, w_mComp2, compL_nil, w_compL, w_mSetF, w_addRR]
  exact ⟨(sl_pos (by simp)), fun j S3 e1 e2 => hq j S3 (w.new e1 e2)⟩
theorem said_0 (hi : ∀ {K : QD} {X : QX}, (∀ S', W n B L S' → K .non S') → u_Moments_init [.ref S.length, d, e] (S ++ [.ins "Moments" []]) K X)
    (hq : ∀ S', W n B L S' → q .non S') : u__law_said [d, e] S q x := by
  rw [e_u__law_said, e_b__law_said, e_b__law_said_1]
  simp only [e_mNext, e_mSeq, e_mExpr, e_mRet, e_mRetN, e_mIfS, e_mBreak, e_mCont, e_mAsg, e_mPar, e_gmName, e_gmNil, e_gmCons, e_gmTup, e_gmSub, e_mVar, e_mC, e_mOp, e_mtB, e_mtT, e_mtNot, e_mtAnd, e_mtOr, e_mAnd, e_mOr, e_mAndT, e_mOrT, e_mIf, e_mNotB, e_mChain, e_maNil, e_maCons, e_mTup, e_mCall, e_mFld, e_mProp, e_mMeth, e_mUnO, e_mBinO, e_mCallO, e_mCMeth, e_mRaise, e_mTry, e_mFn, e_mNeg, e_mIsiB, e_mIsiO, e_mFor, e_miRange1, e_miRange2, e_miRangeW, e_miZip, e_zpT, e_mIsi2, e_miAny, e_seqT, e_powW, e_mAug, e_addI, e_fTupleT, e_mSl00, e_mSl01, e_mSl10, e_mSl11, e_miTup, e_body, e_addII, e_addIB, e_addSS, e_addTT, e_subII, e_mulII, e_fdivII, e_modII, e_powII, e_ltII, e_leII, e_gtII, e_geII, e_is, e_isNot, e_ixT, e_ixS, e_ixD, e_inD, e_fLenS, e_fLenT, e_fMax2, e_fMin2, e_fAbs, e_fIntI, e_fIntB, e_fBoolI, e_fBoolB, e_mExcF, e_tryNil, e_tryCons, e_mBM, e_mEqO, e_mNeO, e_fLenO, e_fBoolO, e_mtTO, e_mInO, e_mNotInO, e_mGetO, e_mSortedSet, e_mLstRg1, e_mDic1, e_mDic0, e_miRange3, e_mtYes, putD, List.getElem?_cons_zero, List.getElem?_cons_succ, List.set_cons_zero, List.set_cons_succ, List.map_cons, List.map_nil, List.length_cons, List.length_nil, List.cons_append, List.nil_append, List.append_nil, List.replicate, Nat.reduceAdd, Nat.reduceSub, Nat.reduceLeDiff, Nat.zero_add, true_and, and_true, reduceIte, Bool.false_eq_true, Bool.true_eq_false, Bool.not_true, Bool.not_false, w_mLst, w_mMake, w_miLst, w_gmUnl, w_mComp, w_mComp2, compL_nil, w_compL, w_mSetF, w_addRR]
  intro j S1 ej eS
  subst ej eS
  refine hi fun S2 w => ?_
  exact ⟨rfl, hq _ w⟩
end
end Lw

namespace Lw
open PySem PySem.Spec PyProof.Rows L2

theorem nodup_len : ∀ {l m : List Int}, l.Nodup → (∀ x ∈ l, x ∈ m) → l.length ≤ m.length
  | [], m, _, _ => Nat.zero_le _
  | a :: l, m, h, s => by
    obtain ⟨h1, h2⟩ := List.nodup_cons.mp h
    have ma := s a List.mem_cons_self
    have ih := nodup_len (m := m.erase a) h2 fun x hx => (List.mem_erase_of_ne (fun e : x = a => h1 (by rw [← e]; exact hx))).mpr (s x (List.mem_cons_of_mem _ hx))
    rw [List.length_erase_of_mem ma] at ih
    have := List.length_pos_of_mem ma
    rw [List.length_cons]
    omega
theorem so_nodup {l : List Int} (h : l.Pairwise (· < ·)) : l.Nodup := h.imp fun hab => by omega
theorem Mk.len {fs gs : List Int} {p q : Int} (h : Mk fs p gs q) : gs.length ≤ fs.length := by
  rcases h with ⟨rfl, rfl, _⟩ | ⟨_, _, rfl, _⟩ | ⟨_, _, k, _, _, _, _, rfl⟩
  · exact Nat.le_refl _
  · exact Nat.le_refl _
  · exact List.length_filter_le _ _
section
/-- the least shift that leaves a set alone -/
theorem least_eq {fs gs : List Int} {P q t : Int} (hP : 0 < P) (cc : Can gs q) (hs : ∀ m, m % q ∈ gs ↔ m % P ∈ fs) (q0 : 0 < q) (qP : q ∣ P) (t0 : 0 < t) (tP : t ∣ P) (pt : Per fs P t) (hm : ∀ t', 1 ≤ t' → t' < t → t' ∣ P → ¬ Per fs P t') : t = q := by
  have pq : Per fs P q := fun m hm => by rw [← hs m, ← hs (m + q), add_mod_self]
  obtain ⟨g, g0, d1, d2, pg⟩ := per_gcd (t + q).toNat t q (by omega) t0 q0 pt pq
  have gt : g = t := by
    have := Int.le_of_dvd t0 d1
    by_cases l : g < t
    · exact absurd pg (hm g (by omega) l (Int.dvd_trans d1 tP))
    · omega
  have gq : g = q := by
    have := Int.le_of_dvd q0 d2
    by_cases l : g < q
    · exact absurd (fun m hm => by rw [hs m, hs (m + g)]; exact pg m hm) (cc.least g g0 l d2)
    · omega
  omega
/-- the shifted set is the set -/
theorem shift_iff {fs ns : List Int} {P t : Int} (h : MOk fs P) (hP : 0 < P) (t0 : 0 < t) (tP : t ≤ P) (so : ns.Pairwise (· < ·)) (hm : ∀ k, k ∈ ns ↔ k ∈ fs.map fun m => (m + t) % P) : ns = fs ↔ Per fs P t := by
  have lt : ∀ x ∈ fs, 0 ≤ x ∧ x < P := fun x m => ⟨(h.ok x m).nn, by
    rcases (h.ok x m).lt with e | e
    · omega
    · exact e⟩
  have img : ∀ k, k ∈ ns ↔ ∃ m ∈ fs, (m + t) % P = k := fun k => by rw [hm, List.mem_map]
  have mm : ∀ m, (m % P + t) % P = (m + t) % P := fun m => Int.emod_add_emod m P t
  constructor
  · intro e m hm0
    rw [e] at img
    constructor
    · intro hx
      exact (img _).mpr ⟨m % P, hx, mm m⟩
    · intro hx
      obtain ⟨m', hm', e2⟩ := (img _).mp hx
      obtain ⟨a0, a1⟩ := lt m' hm'
      have b0 := Int.emod_nonneg m (show P ≠ 0 by omega)
      have b1 := Int.emod_lt_of_pos m hP
      rw [← mm m] at e2
      have : m' = m % P := by
        have d : P ∣ (m' + t) - (m % P + t) := by
          have := Int.emod_emod_of_dvd
          exact Int.dvd_of_emod_eq_zero (Int.emod_eq_emod_iff_emod_sub_eq_zero.mp e2)
        obtain ⟨c, hc⟩ := d
        have c1 : c < 1 := by
          refine Int.lt_of_mul_lt_mul_left (a := P) ?_ (by omega)
          omega
        have c2 : -1 < c := by
          refine Int.lt_of_mul_lt_mul_left (a := P) ?_ (by omega)
          omega
        have : c = 0 := by omega
        subst this
        omega
      rw [← this]
      exact hm'
  · intro per
    refine sorted_ext so h.so fun x => ?_
    rw [img]
    constructor
    · rintro ⟨m, hmf, rfl⟩
      obtain ⟨a0, a1⟩ := lt m hmf
      exact (per m a0).mp (by rw [Int.emod_eq_of_lt a0 a1]; exact hmf)
    · intro hx
      obtain ⟨a0, a1⟩ := lt x hx
      have key := (per (x + (P - t)) (by omega)).mpr (by rw [show x + (P - t) + t = x + P from by omega, add_mod_self, Int.emod_eq_of_lt a0 a1]; exact hx)
      refine ⟨_, key, ?_⟩
      rw [mm, show x + (P - t) + t = x + P from by omega, add_mod_self, Int.emod_eq_of_lt a0 a1]
theorem Mk.dvd {fs gs : List Int} {p q : Int} (h : Mk fs p gs q) (hn : fs ≠ []) (hp : 0 < p) : q ∣ p := by
  rcases h with ⟨h, _⟩ | ⟨_, h, _⟩ | ⟨_, _, k, _, r, _, rfl, _⟩
  · exact absurd h hn
  · omega
  · have e := Int.mul_ediv_add_emod p k
    rw [r.kp] at e
    exact ⟨k, by rw [Int.mul_comm]; omega⟩
/-- copies of a list, each one further -/
def blk (few : List Int) (l : Int) (c : Nat) : List Int := (List.range c).flatMap fun a : Nat => few.map fun m => m + l * (a : Int)
theorem blk_one {few : List Int} {l : Int} : blk few l 1 = few := by simp [blk]
theorem blk_succ {few : List Int} {l : Int} {c : Nat} : blk few l (c + 1) = blk few l c ++ few.map fun m => m + l * (c : Int) := by
  unfold blk
  rw [List.range_succ, List.flatMap_append, List.flatMap_singleton]
theorem blk_len {few : List Int} {l : Int} {c : Nat} : (blk few l c).length = c * few.length := by
  unfold blk
  simp [List.length_flatMap, List.map_const', List.sum_replicate_nat]
theorem blk_ok {few : List Int} {l : Int} (hl : 0 < l) (so : few.Pairwise (· < ·)) (hf : ∀ f ∈ few, 0 ≤ f ∧ f < l) (c : Nat) : (blk few l c).Pairwise (· < ·) ∧ ∀ x ∈ blk few l c, 0 ≤ x ∧ x < l * c := by
  unfold blk
  refine ⟨?_, fun x hx => ?_⟩
  · rw [List.pairwise_flatMap]
    refine ⟨fun a _ => ?_, ?_⟩
    · rw [List.pairwise_map]
      exact so.imp fun h => by omega
    · refine List.pairwise_lt_range.imp fun {a b} hab x hx y hy => ?_
      obtain ⟨u, hu, rfl⟩ := List.mem_map.mp hx
      obtain ⟨v, hv, rfl⟩ := List.mem_map.mp hy
      have h1 := (hf u hu).2
      have h2 := (hf v hv).1
      have h3 : l * ((a + 1 : Nat) : Int) ≤ l * (b : Int) := Int.mul_le_mul_of_nonneg_left (by omega) (by omega)
      have h4 : l * ((a + 1 : Nat) : Int) = l * a + l := by push_cast; rw [Int.mul_add, Int.mul_one]
      omega
  · obtain ⟨a, ha, hx⟩ := List.mem_flatMap.mp hx
    obtain ⟨u, hu, rfl⟩ := List.mem_map.mp hx
    have ha := List.mem_range.mp ha
    obtain ⟨u0, u1⟩ := hf u hu
    have h0 : 0 ≤ l * (a : Int) := Int.mul_nonneg (by omega) (by omega)
    have h3 : l * ((a + 1 : Nat) : Int) ≤ l * (c : Int) := Int.mul_le_mul_of_nonneg_left (by omega) (by omega)
    have h4 : l * ((a + 1 : Nat) : Int) = l * a + l := by push_cast; rw [Int.mul_add, Int.mul_one]
    omega
theorem ty_mom (h : S[j]? = some (mom gs p)) : tyD S (.ref j) = some (.o "Moments") := by simp [tyD, h]
theorem cls_mom : ("Moments" : Str) ∈ CLS := by simp [CLS]
theorem mNe_bl {a b : Bool} : mNe (.bl a) (.bl b) S q = q (.bl (!(a == b))) S := by
  have e : ∀ a : Bool, tree 9 S (.bl a) = some (.bool a) := fun _ => rfl
  have s : ∀ a : Bool, SeqAt.shaped (.bool a) = true := fun a => by simp [SeqAt.shaped, PyData.canLay0, PyData.depth]
  have v : PyData.eqv (.bool a) (.bool b) = (a == b) := by cases a <;> cases b <;> simp [PyData.eqv]
  unfold mNe
  simp only [e, s, v, true_and, and_self]
theorem mom_eq (w : W n B L S) (m1 : (j, mom gs p) ∈ L) (m2 : (j2, mom hs per) ∈ L) (h : q (.bl (decide (gs = hs ∧ p = per))) S) : u_Moments_eq [.ref j, .ref j2] S q x := by
  rw [e_u_Moments_eq, e_b_Moments_eq]
  simp only [e_mNext, e_mSeq, e_mExpr, e_mRet, e_mRetN, e_mIfS, e_mBreak, e_mCont, e_mAsg, e_mPar, e_gmName, e_gmNil, e_gmCons, e_gmTup, e_gmSub, e_mVar, e_mC, e_mOp, e_mtB, e_mtT, e_mtNot, e_mtAnd, e_mtOr, e_mAnd, e_mOr, e_mAndT, e_mOrT, e_mIf, e_mNotB, e_mChain, e_maNil, e_maCons, e_mTup, e_mCall, e_mFld, e_mProp, e_mMeth, e_mUnO, e_mBinO, e_mCallO, e_mCMeth, e_mRaise, e_mTry, e_mFn, e_mNeg, e_mIsiB, e_mIsiO, e_mFor, e_miRange1, e_miRange2, e_miRangeW, e_miZip, e_zpT, e_mIsi2, e_miAny, e_seqT, e_powW, e_mAug, e_addI, e_fTupleT, e_mSl00, e_mSl01, e_mSl10, e_mSl11, e_miTup, e_body, e_addII, e_addIB, e_addSS, e_addTT, e_subII, e_mulII, e_fdivII, e_modII, e_powII, e_ltII, e_leII, e_gtII, e_geII, e_is, e_isNot, e_ixT, e_ixS, e_ixD, e_inD, e_fLenS, e_fLenT, e_fMax2, e_fMin2, e_fAbs, e_fIntI, e_fIntB, e_fBoolI, e_fBoolB, e_mExcF, e_tryNil, e_tryCons, e_mBM, e_mEqO, e_mNeO, e_fLenO, e_fBoolO, e_mtTO, e_mInO, e_mNotInO, e_mGetO, e_mSortedSet, e_mLstRg1, e_mDic1, e_mDic0, e_miRange3, e_mtYes, putD, List.getElem?_cons_zero, List.getElem?_cons_succ, List.set_cons_zero, List.set_cons_succ, List.map_cons, List.map_nil, List.length_cons, List.length_nil, List.cons_append, List.nil_append, List.append_nil, List.replicate, Nat.reduceAdd, Nat.reduceSub, Nat.reduceLeDiff, Nat.zero_add, true_and, and_true, reduceIte, Bool.false_eq_true, Bool.true_eq_false, Bool.not_true, Bool.not_false, w_mLst, w_mMake, w_miLst, w_gmUnl, w_mComp, w_mComp2, compL_nil, w_compL, w_mSetF, w_addRR, ty_mom (w.get m2), cls_mom, beq_self_eq_true]
  refine ins_ok w m1 ?_
  simp only [fl_firsts, e_mNext, e_mSeq, e_mExpr, e_mRet, e_mRetN, e_mIfS, e_mBreak, e_mCont, e_mAsg, e_mPar, e_gmName, e_gmNil, e_gmCons, e_gmTup, e_gmSub, e_mVar, e_mC, e_mOp, e_mtB, e_mtT, e_mtNot, e_mtAnd, e_mtOr, e_mAnd, e_mOr, e_mAndT, e_mOrT, e_mIf, e_mNotB, e_mChain, e_maNil, e_maCons, e_mTup, e_mCall, e_mFld, e_mProp, e_mMeth, e_mUnO, e_mBinO, e_mCallO, e_mCMeth, e_mRaise, e_mTry, e_mFn, e_mNeg, e_mIsiB, e_mIsiO, e_mFor, e_miRange1, e_miRange2, e_miRangeW, e_miZip, e_zpT, e_mIsi2, e_miAny, e_seqT, e_powW, e_mAug, e_addI, e_fTupleT, e_mSl00, e_mSl01, e_mSl10, e_mSl11, e_miTup, e_body, e_addII, e_addIB, e_addSS, e_addTT, e_subII, e_mulII, e_fdivII, e_modII, e_powII, e_ltII, e_leII, e_gtII, e_geII, e_is, e_isNot, e_ixT, e_ixS, e_ixD, e_inD, e_fLenS, e_fLenT, e_fMax2, e_fMin2, e_fAbs, e_fIntI, e_fIntB, e_fBoolI, e_fBoolB, e_mExcF, e_tryNil, e_tryCons, e_mBM, e_mEqO, e_mNeO, e_fLenO, e_fBoolO, e_mtTO, e_mInO, e_mNotInO, e_mGetO, e_mSortedSet, e_mLstRg1, e_mDic1, e_mDic0, e_miRange3, e_mtYes, putD, List.getElem?_cons_zero, List.getElem?_cons_succ, List.set_cons_zero, List.set_cons_succ, List.map_cons, List.map_nil, List.length_cons, List.length_nil, List.cons_append, List.nil_append, List.append_nil, List.replicate, Nat.reduceAdd, Nat.reduceSub, Nat.reduceLeDiff, Nat.zero_add, true_and, and_true, reduceIte, Bool.false_eq_true, Bool.true_eq_false, Bool.not_true, Bool.not_false, w_mLst, w_mMake, w_miLst, w_gmUnl, w_mComp, w_mComp2, compL_nil, w_compL, w_mSetF, w_addRR]
  refine ins_ok w m2 ?_
  simp only [fl_firsts, e_mNext, e_mSeq, e_mExpr, e_mRet, e_mRetN, e_mIfS, e_mBreak, e_mCont, e_mAsg, e_mPar, e_gmName, e_gmNil, e_gmCons, e_gmTup, e_gmSub, e_mVar, e_mC, e_mOp, e_mtB, e_mtT, e_mtNot, e_mtAnd, e_mtOr, e_mAnd, e_mOr, e_mAndT, e_mOrT, e_mIf, e_mNotB, e_mChain, e_maNil, e_maCons, e_mTup, e_mCall, e_mFld, e_mProp, e_mMeth, e_mUnO, e_mBinO, e_mCallO, e_mCMeth, e_mRaise, e_mTry, e_mFn, e_mNeg, e_mIsiB, e_mIsiO, e_mFor, e_miRange1, e_miRange2, e_miRangeW, e_miZip, e_zpT, e_mIsi2, e_miAny, e_seqT, e_powW, e_mAug, e_addI, e_fTupleT, e_mSl00, e_mSl01, e_mSl10, e_mSl11, e_miTup, e_body, e_addII, e_addIB, e_addSS, e_addTT, e_subII, e_mulII, e_fdivII, e_modII, e_powII, e_ltII, e_leII, e_gtII, e_geII, e_is, e_isNot, e_ixT, e_ixS, e_ixD, e_inD, e_fLenS, e_fLenT, e_fMax2, e_fMin2, e_fAbs, e_fIntI, e_fIntB, e_fBoolI, e_fBoolB, e_mExcF, e_tryNil, e_tryCons, e_mBM, e_mEqO, e_mNeO, e_fLenO, e_fBoolO, e_mtTO, e_mInO, e_mNotInO, e_mGetO, e_mSortedSet, e_mLstRg1, e_mDic1, e_mDic0, e_miRange3, e_mtYes, putD, List.getElem?_cons_zero, List.getElem?_cons_succ, List.set_cons_zero, List.set_cons_succ, List.map_cons, List.map_nil, List.length_cons, List.length_nil, List.cons_append, List.nil_append, List.append_nil, List.replicate, Nat.reduceAdd, Nat.reduceSub, Nat.reduceLeDiff, Nat.zero_add, true_and, and_true, reduceIte, Bool.false_eq_true, Bool.true_eq_false, Bool.not_true, Bool.not_false, w_mLst, w_mMake, w_miLst, w_gmUnl, w_mComp, w_mComp2, compL_nil, w_compL, w_mSetF, w_addRR, mEq_tupI]
  by_cases e : gs = hs
  · rw [if_pos (decide_eq_true e)]
    refine ins_ok w m1 ?_
    simp only [fl_period, e_mNext, e_mSeq, e_mExpr, e_mRet, e_mRetN, e_mIfS, e_mBreak, e_mCont, e_mAsg, e_mPar, e_gmName, e_gmNil, e_gmCons, e_gmTup, e_gmSub, e_mVar, e_mC, e_mOp, e_mtB, e_mtT, e_mtNot, e_mtAnd, e_mtOr, e_mAnd, e_mOr, e_mAndT, e_mOrT, e_mIf, e_mNotB, e_mChain, e_maNil, e_maCons, e_mTup, e_mCall, e_mFld, e_mProp, e_mMeth, e_mUnO, e_mBinO, e_mCallO, e_mCMeth, e_mRaise, e_mTry, e_mFn, e_mNeg, e_mIsiB, e_mIsiO, e_mFor, e_miRange1, e_miRange2, e_miRangeW, e_miZip, e_zpT, e_mIsi2, e_miAny, e_seqT, e_powW, e_mAug, e_addI, e_fTupleT, e_mSl00, e_mSl01, e_mSl10, e_mSl11, e_miTup, e_body, e_addII, e_addIB, e_addSS, e_addTT, e_subII, e_mulII, e_fdivII, e_modII, e_powII, e_ltII, e_leII, e_gtII, e_geII, e_is, e_isNot, e_ixT, e_ixS, e_ixD, e_inD, e_fLenS, e_fLenT, e_fMax2, e_fMin2, e_fAbs, e_fIntI, e_fIntB, e_fBoolI, e_fBoolB, e_mExcF, e_tryNil, e_tryCons, e_mBM, e_mEqO, e_mNeO, e_fLenO, e_fBoolO, e_mtTO, e_mInO, e_mNotInO, e_mGetO, e_mSortedSet, e_mLstRg1, e_mDic1, e_mDic0, e_miRange3, e_mtYes, putD, List.getElem?_cons_zero, List.getElem?_cons_succ, List.set_cons_zero, List.set_cons_succ, List.map_cons, List.map_nil, List.length_cons, List.length_nil, List.cons_append, List.nil_append, List.append_nil, List.replicate, Nat.reduceAdd, Nat.reduceSub, Nat.reduceLeDiff, Nat.zero_add, true_and, and_true, reduceIte, Bool.false_eq_true, Bool.true_eq_false, Bool.not_true, Bool.not_false, w_mLst, w_mMake, w_miLst, w_gmUnl, w_mComp, w_mComp2, compL_nil, w_compL, w_mSetF, w_addRR]
    refine ins_ok w m2 ?_
    simp only [fl_period, e_mNext, e_mSeq, e_mExpr, e_mRet, e_mRetN, e_mIfS, e_mBreak, e_mCont, e_mAsg, e_mPar, e_gmName, e_gmNil, e_gmCons, e_gmTup, e_gmSub, e_mVar, e_mC, e_mOp, e_mtB, e_mtT, e_mtNot, e_mtAnd, e_mtOr, e_mAnd, e_mOr, e_mAndT, e_mOrT, e_mIf, e_mNotB, e_mChain, e_maNil, e_maCons, e_mTup, e_mCall, e_mFld, e_mProp, e_mMeth, e_mUnO, e_mBinO, e_mCallO, e_mCMeth, e_mRaise, e_mTry, e_mFn, e_mNeg, e_mIsiB, e_mIsiO, e_mFor, e_miRange1, e_miRange2, e_miRangeW, e_miZip, e_zpT, e_mIsi2, e_miAny, e_seqT, e_powW, e_mAug, e_addI, e_fTupleT, e_mSl00, e_mSl01, e_mSl10, e_mSl11, e_miTup, e_body, e_addII, e_addIB, e_addSS, e_addTT, e_subII, e_mulII, e_fdivII, e_modII, e_powII, e_ltII, e_leII, e_gtII, e_geII, e_is, e_isNot, e_ixT, e_ixS, e_ixD, e_inD, e_fLenS, e_fLenT, e_fMax2, e_fMin2, e_fAbs, e_fIntI, e_fIntB, e_fBoolI, e_fBoolB, e_mExcF, e_tryNil, e_tryCons, e_mBM, e_mEqO, e_mNeO, e_fLenO, e_fBoolO, e_mtTO, e_mInO, e_mNotInO, e_mGetO, e_mSortedSet, e_mLstRg1, e_mDic1, e_mDic0, e_miRange3, e_mtYes, putD, List.getElem?_cons_zero, List.getElem?_cons_succ, List.set_cons_zero, List.set_cons_succ, List.map_cons, List.map_nil, List.length_cons, List.length_nil, List.cons_append, List.nil_append, List.append_nil, List.replicate, Nat.reduceAdd, Nat.reduceSub, Nat.reduceLeDiff, Nat.zero_add, true_and, and_true, reduceIte, Bool.false_eq_true, Bool.true_eq_false, Bool.not_true, Bool.not_false, w_mLst, w_mMake, w_miLst, w_gmUnl, w_mComp, w_mComp2, compL_nil, w_compL, w_mSetF, w_addRR, mEq_int']
    have : (p == per) = decide (gs = hs ∧ p = per) := by
      by_cases e2 : p = per <;> simp [e, e2]
    rw [this]
    exact h
  · rw [if_neg (by simpa using e)]
    have : decide (gs = hs ∧ p = per) = false := decide_eq_false fun z => e z.1
    rw [this] at h
    exact h
theorem eqO_w (w : W n B L S) (m1 : (j, mom gs p) ∈ L) (m2 : (j2, mom hs per) ∈ L) (h : q (.bl (decide (gs = hs ∧ p = per))) S) :
    isIns "Moments" (.ref j) S (fun _ => okE CLS (.ref j2) S ∧ u_Moments_eq [.ref j, .ref j2] S q x) :=
  ins_ok w m1 ⟨by simp only [okE, ty_mom (w.get m2), cls_mom], mom_eq w m1 m2 h⟩
theorem neO_w {K : Bool → Sto → Prop} (w : W n B L S) (m1 : (j, mom gs p) ∈ L) (m2 : (j2, mom hs per) ∈ L) (h : K (decide (gs = hs ∧ p = per)) S) :
    isIns "Moments" (.ref j) S (fun _ => okE CLS (.ref j2) S ∧ u_Moments_eq [.ref j, .ref j2] S (fun r S3 => match r with
    | .bl k => K k S3
    | _ => False) noQ) :=
  ins_ok w m1 ⟨by simp only [okE, ty_mom (w.get m2), cls_mom], mom_eq w m1 m2 h⟩
theorem bool_w (w : W n B L S) (m : (j, mom gs p) ∈ L) (h : q (.bl (decide (gs ≠ []))) S) : u_Moments_bool [.ref j] S q x := by
  rw [e_u_Moments_bool, e_b_Moments_bool]
  simp only [e_mNext, e_mSeq, e_mExpr, e_mRet, e_mRetN, e_mIfS, e_mBreak, e_mCont, e_mAsg, e_mPar, e_gmName, e_gmNil, e_gmCons, e_gmTup, e_gmSub, e_mVar, e_mC, e_mOp, e_mtB, e_mtT, e_mtNot, e_mtAnd, e_mtOr, e_mAnd, e_mOr, e_mAndT, e_mOrT, e_mIf, e_mNotB, e_mChain, e_maNil, e_maCons, e_mTup, e_mCall, e_mFld, e_mProp, e_mMeth, e_mUnO, e_mBinO, e_mCallO, e_mCMeth, e_mRaise, e_mTry, e_mFn, e_mNeg, e_mIsiB, e_mIsiO, e_mFor, e_miRange1, e_miRange2, e_miRangeW, e_miZip, e_zpT, e_mIsi2, e_miAny, e_seqT, e_powW, e_mAug, e_addI, e_fTupleT, e_mSl00, e_mSl01, e_mSl10, e_mSl11, e_miTup, e_body, e_addII, e_addIB, e_addSS, e_addTT, e_subII, e_mulII, e_fdivII, e_modII, e_powII, e_ltII, e_leII, e_gtII, e_geII, e_is, e_isNot, e_ixT, e_ixS, e_ixD, e_inD, e_fLenS, e_fLenT, e_fMax2, e_fMin2, e_fAbs, e_fIntI, e_fIntB, e_fBoolI, e_fBoolB, e_mExcF, e_tryNil, e_tryCons, e_mBM, e_mEqO, e_mNeO, e_fLenO, e_fBoolO, e_mtTO, e_mInO, e_mNotInO, e_mGetO, e_mSortedSet, e_mLstRg1, e_mDic1, e_mDic0, e_miRange3, e_mtYes, putD, List.getElem?_cons_zero, List.getElem?_cons_succ, List.set_cons_zero, List.set_cons_succ, List.map_cons, List.map_nil, List.length_cons, List.length_nil, List.cons_append, List.nil_append, List.append_nil, List.replicate, Nat.reduceAdd, Nat.reduceSub, Nat.reduceLeDiff, Nat.zero_add, true_and, and_true, reduceIte, Bool.false_eq_true, Bool.true_eq_false, Bool.not_true, Bool.not_false, w_mLst, w_mMake, w_miLst, w_gmUnl, w_mComp, w_mComp2, compL_nil, w_compL, w_mSetF, w_addRR]
  refine ins_ok w m ?_
  simp only [fl_firsts, e_mNext, e_mSeq, e_mExpr, e_mRet, e_mRetN, e_mIfS, e_mBreak, e_mCont, e_mAsg, e_mPar, e_gmName, e_gmNil, e_gmCons, e_gmTup, e_gmSub, e_mVar, e_mC, e_mOp, e_mtB, e_mtT, e_mtNot, e_mtAnd, e_mtOr, e_mAnd, e_mOr, e_mAndT, e_mOrT, e_mIf, e_mNotB, e_mChain, e_maNil, e_maCons, e_mTup, e_mCall, e_mFld, e_mProp, e_mMeth, e_mUnO, e_mBinO, e_mCallO, e_mCMeth, e_mRaise, e_mTry, e_mFn, e_mNeg, e_mIsiB, e_mIsiO, e_mFor, e_miRange1, e_miRange2, e_miRangeW, e_miZip, e_zpT, e_mIsi2, e_miAny, e_seqT, e_powW, e_mAug, e_addI, e_fTupleT, e_mSl00, e_mSl01, e_mSl10, e_mSl11, e_miTup, e_body, e_addII, e_addIB, e_addSS, e_addTT, e_subII, e_mulII, e_fdivII, e_modII, e_powII, e_ltII, e_leII, e_gtII, e_geII, e_is, e_isNot, e_ixT, e_ixS, e_ixD, e_inD, e_fLenS, e_fLenT, e_fMax2, e_fMin2, e_fAbs, e_fIntI, e_fIntB, e_fBoolI, e_fBoolB, e_mExcF, e_tryNil, e_tryCons, e_mBM, e_mEqO, e_mNeO, e_fLenO, e_fBoolO, e_mtTO, e_mInO, e_mNotInO, e_mGetO, e_mSortedSet, e_mLstRg1, e_mDic1, e_mDic0, e_miRange3, e_mtYes, putD, List.getElem?_cons_zero, List.getElem?_cons_succ, List.set_cons_zero, List.set_cons_succ, List.map_cons, List.map_nil, List.length_cons, List.length_nil, List.cons_append, List.nil_append, List.append_nil, List.replicate, Nat.reduceAdd, Nat.reduceSub, Nat.reduceLeDiff, Nat.zero_add, true_and, and_true, reduceIte, Bool.false_eq_true, Bool.true_eq_false, Bool.not_true, Bool.not_false, w_mLst, w_mMake, w_miLst, w_gmUnl, w_mComp, w_mComp2, compL_nil, w_compL, w_mSetF, w_addRR, List.length_map]
  have : ((gs.length : Int) != 0) = decide (gs ≠ []) := by
    cases gs with
    | nil => rfl
    | cons a r =>
      have : ((r.length : Int) + 1 ≠ 0) := by omega
      simp [this]
  first
  | (rw [this]; exact h)
  | (simp only [this]; exact h)
theorem firsts_w (w : W n B L S) (m : (j, mom gs p) ∈ L) (hq : q (.tup (gs.map D.int)) S) : u_Moments_firsts [.ref j] S q x := by
  rw [e_u_Moments_firsts, e_b_Moments_firsts]
  simp only [e_mNext, e_mSeq, e_mExpr, e_mRet, e_mRetN, e_mIfS, e_mBreak, e_mCont, e_mAsg, e_mPar, e_gmName, e_gmNil, e_gmCons, e_gmTup, e_gmSub, e_mVar, e_mC, e_mOp, e_mtB, e_mtT, e_mtNot, e_mtAnd, e_mtOr, e_mAnd, e_mOr, e_mAndT, e_mOrT, e_mIf, e_mNotB, e_mChain, e_maNil, e_maCons, e_mTup, e_mCall, e_mFld, e_mProp, e_mMeth, e_mUnO, e_mBinO, e_mCallO, e_mCMeth, e_mRaise, e_mTry, e_mFn, e_mNeg, e_mIsiB, e_mIsiO, e_mFor, e_miRange1, e_miRange2, e_miRangeW, e_miZip, e_zpT, e_mIsi2, e_miAny, e_seqT, e_powW, e_mAug, e_addI, e_fTupleT, e_mSl00, e_mSl01, e_mSl10, e_mSl11, e_miTup, e_body, e_addII, e_addIB, e_addSS, e_addTT, e_subII, e_mulII, e_fdivII, e_modII, e_powII, e_ltII, e_leII, e_gtII, e_geII, e_is, e_isNot, e_ixT, e_ixS, e_ixD, e_inD, e_fLenS, e_fLenT, e_fMax2, e_fMin2, e_fAbs, e_fIntI, e_fIntB, e_fBoolI, e_fBoolB, e_mExcF, e_tryNil, e_tryCons, e_mBM, e_mEqO, e_mNeO, e_fLenO, e_fBoolO, e_mtTO, e_mInO, e_mNotInO, e_mGetO, e_mSortedSet, e_mLstRg1, e_mDic1, e_mDic0, e_miRange3, e_mtYes, putD, List.getElem?_cons_zero, List.getElem?_cons_succ, List.set_cons_zero, List.set_cons_succ, List.map_cons, List.map_nil, List.length_cons, List.length_nil, List.cons_append, List.nil_append, List.append_nil, List.replicate, Nat.reduceAdd, Nat.reduceSub, Nat.reduceLeDiff, Nat.zero_add, true_and, and_true, reduceIte, Bool.false_eq_true, Bool.true_eq_false, Bool.not_true, Bool.not_false, w_mLst, w_mMake, w_miLst, w_gmUnl, w_mComp, w_mComp2, compL_nil, w_compL, w_mSetF, w_addRR]
  refine ins_ok w m ?_
  simp only [fl_firsts]
  exact hq
theorem srt_w {ns : List Int} (w : W n B L S) (h : (j, .lst (ns.map D.int)) ∈ L) (hl : ns.length < 64) (hq : ∀ (k : Nat) (S' : Sto) (ns' : List Int), ns'.Pairwise (· < ·) → (∀ k, k ∈ ns' ↔ k ∈ ns) → W n B ((k, .lst (ns'.map D.int)) :: L) S' → q (.ref k) S') : srtD (.ref j) S q := by
  unfold srtD seqO
  simp only [w.get h]
  exact ⟨ns, rfl, hl, fun ns' h1 h2 => hq _ _ ns' h1 h2 (w.new rfl rfl)⟩
theorem draws_w {g : MG} {e : ME} {sd0 : Sg} {Q : List Lw.D → Sto → Prop} {lim2 : Int} {items : List Lw.D} (w : W n B L S) (hl : items.length ≤ 7)
    (he : ∀ (d : Lw.D) (S' : Sto) (K : Lw.D → Sto → Prop), W n B L S' → (∀ v S'', 0 ≤ v → v < lim2 → W n B L S'' → K (.int v) S'') → g d sd0 S' (fun sd1 S1 => e sd1 S1 K noX))
    (hq : ∀ (ns : List Int) (S' : Sto), ns.length ≤ 7 → (∀ v ∈ ns, 0 ≤ v ∧ v < lim2) → W n B L S' → Q (ns.map D.int) S') : compL (fun _ => True) g mtYes e sd0 Q items [] S := by
  refine compL_ind (fun items acc S' => ∃ ns : List Int, acc = ns.map D.int ∧ ns.length + items.length ≤ 7 ∧ (∀ v ∈ ns, 0 ≤ v ∧ v < lim2) ∧ W n B L S') ?_ ?_ _ _ _ ⟨[], rfl, by simpa using hl, fun v h => (by cases h), w⟩
  · rintro acc S' ⟨ns, rfl, hl', hv, w⟩
    exact ⟨trivial, hq ns S' (by simpa using hl') hv w⟩
  · rintro d is acc S' ⟨ns, rfl, hl', hv, w⟩ ih
    refine ⟨trivial, ?_⟩
    simp only [e_mtYes, reduceIte]
    refine he d S' _ w fun v S3 v0 v1 w => ?_
    rw [List.length_cons] at hl'
    refine ⟨by rw [List.length_map]; have := sl_big (n := 10) (by decide); omega, ?_⟩
    exact ih _ _ ⟨ns ++ [v], by simp, by simp; omega, fun u hu => by
      rcases List.mem_append.mp hu with hu | hu
      · exact hv u hu
      · have e : u = v := by simpa using hu
        rw [e]; exact ⟨v0, v1⟩, w⟩
theorem some_w (w : W n B L S) (l0 : 0 < lim) (l1 : lim < 1000) (m0 : 0 < most) (m1 : most ≤ 7) (hq : ∀ (i : Nat) (S' : Sto) (fs : List Int), fs.Pairwise (· < ·) → (∀ f ∈ fs, 0 ≤ f ∧ f < lim) → fs.length ≤ 6 → W n B ((i, .lst (fs.map D.int)) :: L) S' → q (.ref i) S') : u__law_some [.ref n, .int lim, .int most] S q x := by
  rw [e_u__law_some, e_b__law_some]
  simp only [e_mNext, e_mSeq, e_mExpr, e_mRet, e_mRetN, e_mIfS, e_mBreak, e_mCont, e_mAsg, e_mPar, e_gmName, e_gmNil, e_gmCons, e_gmTup, e_gmSub, e_mVar, e_mC, e_mOp, e_mtB, e_mtT, e_mtNot, e_mtAnd, e_mtOr, e_mAnd, e_mOr, e_mAndT, e_mOrT, e_mIf, e_mNotB, e_mChain, e_maNil, e_maCons, e_mTup, e_mCall, e_mFld, e_mProp, e_mMeth, e_mUnO, e_mBinO, e_mCallO, e_mCMeth, e_mRaise, e_mTry, e_mFn, e_mNeg, e_mIsiB, e_mIsiO, e_mFor, e_miRange1, e_miRange2, e_miRangeW, e_miZip, e_zpT, e_mIsi2, e_miAny, e_seqT, e_powW, e_mAug, e_addI, e_fTupleT, e_mSl00, e_mSl01, e_mSl10, e_mSl11, e_miTup, e_body, e_addII, e_addIB, e_addSS, e_addTT, e_subII, e_mulII, e_fdivII, e_modII, e_powII, e_ltII, e_leII, e_gtII, e_geII, e_is, e_isNot, e_ixT, e_ixS, e_ixD, e_inD, e_fLenS, e_fLenT, e_fMax2, e_fMin2, e_fAbs, e_fIntI, e_fIntB, e_fBoolI, e_fBoolB, e_mExcF, e_tryNil, e_tryCons, e_mBM, e_mEqO, e_mNeO, e_fLenO, e_fBoolO, e_mtTO, e_mInO, e_mNotInO, e_mGetO, e_mSortedSet, e_mLstRg1, e_mDic1, e_mDic0, e_miRange3, e_mtYes, putD, List.getElem?_cons_zero, List.getElem?_cons_succ, List.set_cons_zero, List.set_cons_succ, List.map_cons, List.map_nil, List.length_cons, List.length_nil, List.cons_append, List.nil_append, List.append_nil, List.replicate, Nat.reduceAdd, Nat.reduceSub, Nat.reduceLeDiff, Nat.zero_add, true_and, and_true, reduceIte, Bool.false_eq_true, Bool.true_eq_false, Bool.not_true, Bool.not_false, w_mLst, w_mMake, w_miLst, w_gmUnl, w_mComp, w_mComp2, compL_nil, w_compL, w_mSetF, w_addRR]
  refine drw_w w m0 (by omega) fun kk S1 k0 k1 w => ?_
  refine ⟨⟨by omega, by omega⟩, ?_⟩
  simp only [wipeD, List.set_cons_succ, List.set_cons_zero]
  refine compL_ind (fun items acc S' => ∃ ns : List Int, acc = ns.map D.int ∧ ns.length + items.length ≤ 6 ∧ (∀ v ∈ ns, 0 ≤ v ∧ v < lim) ∧ W n B L S') ?_ ?_ _ _ _ ⟨[], rfl, by rw [rangeD_len]; simp; omega, fun v h => (by cases h), w⟩
  · rintro acc S' ⟨ns, rfl, hl', hv, w⟩
    refine ⟨trivial, ?_⟩
    intro j S2 ej eS
    replace w := w.new ej eS
    try simp only [e_mNext, e_mSeq, e_mExpr, e_mRet, e_mRetN, e_mIfS, e_mBreak, e_mCont, e_mAsg, e_mPar, e_gmName, e_gmNil, e_gmCons, e_gmTup, e_gmSub, e_mVar, e_mC, e_mOp, e_mtB, e_mtT, e_mtNot, e_mtAnd, e_mtOr, e_mAnd, e_mOr, e_mAndT, e_mOrT, e_mIf, e_mNotB, e_mChain, e_maNil, e_maCons, e_mTup, e_mCall, e_mFld, e_mProp, e_mMeth, e_mUnO, e_mBinO, e_mCallO, e_mCMeth, e_mRaise, e_mTry, e_mFn, e_mNeg, e_mIsiB, e_mIsiO, e_mFor, e_miRange1, e_miRange2, e_miRangeW, e_miZip, e_zpT, e_mIsi2, e_miAny, e_seqT, e_powW, e_mAug, e_addI, e_fTupleT, e_mSl00, e_mSl01, e_mSl10, e_mSl11, e_miTup, e_body, e_addII, e_addIB, e_addSS, e_addTT, e_subII, e_mulII, e_fdivII, e_modII, e_powII, e_ltII, e_leII, e_gtII, e_geII, e_is, e_isNot, e_ixT, e_ixS, e_ixD, e_inD, e_fLenS, e_fLenT, e_fMax2, e_fMin2, e_fAbs, e_fIntI, e_fIntB, e_fBoolI, e_fBoolB, e_mExcF, e_tryNil, e_tryCons, e_mBM, e_mEqO, e_mNeO, e_fLenO, e_fBoolO, e_mtTO, e_mInO, e_mNotInO, e_mGetO, e_mSortedSet, e_mLstRg1, e_mDic1, e_mDic0, e_miRange3, e_mtYes, putD, List.getElem?_cons_zero, List.getElem?_cons_succ, List.set_cons_zero, List.set_cons_succ, List.map_cons, List.map_nil, List.length_cons, List.length_nil, List.cons_append, List.nil_append, List.append_nil, List.replicate, Nat.reduceAdd, Nat.reduceSub, Nat.reduceLeDiff, Nat.zero_add, true_and, and_true, reduceIte, Bool.false_eq_true, Bool.true_eq_false, Bool.not_true, Bool.not_false, w_mLst, w_mMake, w_miLst, w_gmUnl, w_mComp, w_mComp2, compL_nil, w_compL, w_mSetF, w_addRR]
    simp only [List.length_nil, Nat.add_zero] at hl'
    refine srt_w w (List.mem_cons_self ..) (by omega) fun i S3 fs so hm w => ?_
    have l1 := nodup_len (so_nodup so) fun k m => (hm k).mp m
    refine hq i S3 fs so (fun f m => hv f ((hm f).mp m)) (by omega) (w.sub fun i o m => ?_)
    rcases List.mem_cons.mp m with e | m
    · rw [e]; exact List.mem_cons_self ..
    · exact .tail _ (.tail _ m)
  · rintro d is acc S' ⟨ns, rfl, hl', hv, w⟩ ih
    refine ⟨trivial, ?_⟩
    simp only [e_mNext, e_mSeq, e_mExpr, e_mRet, e_mRetN, e_mIfS, e_mBreak, e_mCont, e_mAsg, e_mPar, e_gmName, e_gmNil, e_gmCons, e_gmTup, e_gmSub, e_mVar, e_mC, e_mOp, e_mtB, e_mtT, e_mtNot, e_mtAnd, e_mtOr, e_mAnd, e_mOr, e_mAndT, e_mOrT, e_mIf, e_mNotB, e_mChain, e_maNil, e_maCons, e_mTup, e_mCall, e_mFld, e_mProp, e_mMeth, e_mUnO, e_mBinO, e_mCallO, e_mCMeth, e_mRaise, e_mTry, e_mFn, e_mNeg, e_mIsiB, e_mIsiO, e_mFor, e_miRange1, e_miRange2, e_miRangeW, e_miZip, e_zpT, e_mIsi2, e_miAny, e_seqT, e_powW, e_mAug, e_addI, e_fTupleT, e_mSl00, e_mSl01, e_mSl10, e_mSl11, e_miTup, e_body, e_addII, e_addIB, e_addSS, e_addTT, e_subII, e_mulII, e_fdivII, e_modII, e_powII, e_ltII, e_leII, e_gtII, e_geII, e_is, e_isNot, e_ixT, e_ixS, e_ixD, e_inD, e_fLenS, e_fLenT, e_fMax2, e_fMin2, e_fAbs, e_fIntI, e_fIntB, e_fBoolI, e_fBoolB, e_mExcF, e_tryNil, e_tryCons, e_mBM, e_mEqO, e_mNeO, e_fLenO, e_fBoolO, e_mtTO, e_mInO, e_mNotInO, e_mGetO, e_mSortedSet, e_mLstRg1, e_mDic1, e_mDic0, e_miRange3, e_mtYes, putD, List.getElem?_cons_zero, List.getElem?_cons_succ, List.set_cons_zero, List.set_cons_succ, List.map_cons, List.map_nil, List.length_cons, List.length_nil, List.cons_append, List.nil_append, List.append_nil, List.replicate, Nat.reduceAdd, Nat.reduceSub, Nat.reduceLeDiff, Nat.zero_add, true_and, and_true, reduceIte, Bool.false_eq_true, Bool.true_eq_false, Bool.not_true, Bool.not_false, w_mLst, w_mMake, w_miLst, w_gmUnl, w_mComp, w_mComp2, compL_nil, w_compL, w_mSetF, w_addRR]
    refine drw_w w l0 l1 fun v S3 v0 v1 w => ?_
    rw [List.length_cons] at hl'
    refine ⟨by rw [List.length_map]; have := sl_big (n := 10) (by decide); omega, ?_⟩
    exact ih _ _ ⟨ns ++ [v], by simp, by simp; omega, fun u hu => by
      rcases List.mem_append.mp hu with hu | hu
      · exact hv u hu
      · have e : u = v := by simpa using hu
        rw [e]; exact ⟨v0, v1⟩, w⟩
theorem in_lstI {v : Int} {a : List Int} (h : S[j]? = some (.lst (a.map D.int))) : mIn (.int v) (.ref j) S q = q (.bl (decide (v ∈ a))) S := by
  have e : tree 9 S (.ref j) = some (.list (a.map PyData.int)) := by
    rw [tr_lst h, trL_ints]; rfl
  have e2 : ((a.map PyData.int).any fun z => PyData.eqv z (.int v)) = decide (v ∈ a) := by
    rw [List.any_map]
    induction a with
    | nil => rfl
    | cons b as ih =>
      rw [List.any_cons]
      have ih' : (as.any ((fun z => PyData.eqv z (.int v)) ∘ PyData.int)) = decide (v ∈ as) := by
        clear ih e h
        induction as with
        | nil => rfl
        | cons c cs ih2 =>
          rw [List.any_cons, ih2]
          simp only [Function.comp_def, PyData.eqv, List.mem_cons]
          by_cases h : v = c
          · subst h; simp
          · rw [beq_false_of_ne (Ne.symm h)]
            simp [h]
      rw [ih']
      simp only [Function.comp_def, PyData.eqv, List.mem_cons]
      by_cases h : v = b
      · subst h; simp
      · rw [beq_false_of_ne (Ne.symm h)]
        simp [h]
  unfold mIn
  simp only [e, tr_int, sh_ints, sh_int, e2, true_and, and_self]
theorem mEq_lstI {a b : List Int} (h1 : S[i]? = some (.lst (a.map D.int))) (h2 : S[j]? = some (.lst (b.map D.int))) (h : q (.bl (decide (a = b))) S) : mEq (.ref i) (.ref j) S q := by
  refine mEq_of (a := .list (a.map PyData.int)) (b := .list (b.map PyData.int)) ?_ ?_ sh_ints sh_ints ?_
  · rw [tr_lst h1, trL_ints]; rfl
  · rw [tr_lst h2, trL_ints]; rfl
  · simp only [PyData.eqv, eqv_ints]
    exact h
theorem mNe_lstI {a b : List Int} (h1 : S[i]? = some (.lst (a.map D.int))) (h2 : S[j]? = some (.lst (b.map D.int))) (h : q (.bl (!decide (a = b))) S) : mNe (.ref i) (.ref j) S q := by
  refine mNe_of (a := .list (a.map PyData.int)) (b := .list (b.map PyData.int)) ?_ ?_ sh_ints sh_ints ?_
  · rw [tr_lst h1, trL_ints]; rfl
  · rw [tr_lst h2, trL_ints]; rfl
  · simp only [PyData.eqv, eqv_ints]
    exact h
/-- the law's own least shift -/
theorem lleast_w (w : W n B L S) (m : (i, .lst (fs.map D.int)) ∈ L) (hP : 0 < P) (hPB : P < 1000) (hl : fs.length ≤ 60) (h : MOk fs P) (cc : Can gs p) (hs : ∀ m, m % p ∈ gs ↔ m % P ∈ fs) (p0 : 0 < p) (pP : p ∣ P) (hq : ∀ S', W n B L S' → q (.int p) S') : u__law_least [.ref i, .int P] S q x := by
  rw [e_u__law_least, e_b__law_least, e_b__law_least_2, e_b__law_least_1]
  simp only [e_mNext, e_mSeq, e_mExpr, e_mRet, e_mRetN, e_mIfS, e_mBreak, e_mCont, e_mAsg, e_mPar, e_gmName, e_gmNil, e_gmCons, e_gmTup, e_gmSub, e_mVar, e_mC, e_mOp, e_mtB, e_mtT, e_mtNot, e_mtAnd, e_mtOr, e_mAnd, e_mOr, e_mAndT, e_mOrT, e_mIf, e_mNotB, e_mChain, e_maNil, e_maCons, e_mTup, e_mCall, e_mFld, e_mProp, e_mMeth, e_mUnO, e_mBinO, e_mCallO, e_mCMeth, e_mRaise, e_mTry, e_mFn, e_mNeg, e_mIsiB, e_mIsiO, e_mFor, e_miRange1, e_miRange2, e_miRangeW, e_miZip, e_zpT, e_mIsi2, e_miAny, e_seqT, e_powW, e_mAug, e_addI, e_fTupleT, e_mSl00, e_mSl01, e_mSl10, e_mSl11, e_miTup, e_body, e_addII, e_addIB, e_addSS, e_addTT, e_subII, e_mulII, e_fdivII, e_modII, e_powII, e_ltII, e_leII, e_gtII, e_geII, e_is, e_isNot, e_ixT, e_ixS, e_ixD, e_inD, e_fLenS, e_fLenT, e_fMax2, e_fMin2, e_fAbs, e_fIntI, e_fIntB, e_fBoolI, e_fBoolB, e_mExcF, e_tryNil, e_tryCons, e_mBM, e_mEqO, e_mNeO, e_fLenO, e_fBoolO, e_mtTO, e_mInO, e_mNotInO, e_mGetO, e_mSortedSet, e_mLstRg1, e_mDic1, e_mDic0, e_miRange3, e_mtYes, putD, List.getElem?_cons_zero, List.getElem?_cons_succ, List.set_cons_zero, List.set_cons_succ, List.map_cons, List.map_nil, List.length_cons, List.length_nil, List.cons_append, List.nil_append, List.append_nil, List.replicate, Nat.reduceAdd, Nat.reduceSub, Nat.reduceLeDiff, Nat.zero_add, true_and, and_true, reduceIte, Bool.false_eq_true, Bool.true_eq_false, Bool.not_true, Bool.not_false, w_mLst, w_mMake, w_miLst, w_gmUnl, w_mComp, w_mComp2, compL_nil, w_compL, w_mSetF, w_addRR]
  refine ⟨⟨by decide, by decide, by omega, by omega⟩, ?_⟩
  refine forL_ind (fun items sd S' => ∃ (k : Nat) (t : Int) (c2 : Option D), items = rangeD t k ∧ 1 ≤ t ∧ t + k = P + 1 ∧ sd = [some (.ref i), some (.int P), c2, none] ∧ (∀ t', 1 ≤ t' → t' < t → t' ∣ P → ¬ Per fs P t') ∧ W n B L S') ?_ ?_ _ _ _ ⟨(P + 1 - 1).toNat, 1, none, rfl, Int.le_refl _, by omega, rfl, fun t' h1 h2 => by omega, w⟩
  · rintro sd S' ⟨k, t, c2, hi, t1, tk, rfl, hm, w⟩
    have k0 : k = 0 := by
      cases k with
      | zero => rfl
      | succ k => unfold rangeD at hi; cases hi
    exact absurd (self_per (gs := fs) (q := P)) (hm P (by omega) (by omega) (Int.dvd_refl P))
  · rintro d is sd S' ⟨k, t, c2, hi, t1, tk, rfl, hm, w⟩ ih
    cases k with
    | zero => unfold rangeD at hi; cases hi
    | succ k =>
      unfold rangeD at hi
      obtain ⟨rfl, rfl⟩ := List.cons.inj hi
      refine ⟨trivial, ?_⟩
      simp only [e_mNext, e_mSeq, e_mExpr, e_mRet, e_mRetN, e_mIfS, e_mBreak, e_mCont, e_mAsg, e_mPar, e_gmName, e_gmNil, e_gmCons, e_gmTup, e_gmSub, e_mVar, e_mC, e_mOp, e_mtB, e_mtT, e_mtNot, e_mtAnd, e_mtOr, e_mAnd, e_mOr, e_mAndT, e_mOrT, e_mIf, e_mNotB, e_mChain, e_maNil, e_maCons, e_mTup, e_mCall, e_mFld, e_mProp, e_mMeth, e_mUnO, e_mBinO, e_mCallO, e_mCMeth, e_mRaise, e_mTry, e_mFn, e_mNeg, e_mIsiB, e_mIsiO, e_mFor, e_miRange1, e_miRange2, e_miRangeW, e_miZip, e_zpT, e_mIsi2, e_miAny, e_seqT, e_powW, e_mAug, e_addI, e_fTupleT, e_mSl00, e_mSl01, e_mSl10, e_mSl11, e_miTup, e_body, e_addII, e_addIB, e_addSS, e_addTT, e_subII, e_mulII, e_fdivII, e_modII, e_powII, e_ltII, e_leII, e_gtII, e_geII, e_is, e_isNot, e_ixT, e_ixS, e_ixD, e_inD, e_fLenS, e_fLenT, e_fMax2, e_fMin2, e_fAbs, e_fIntI, e_fIntB, e_fBoolI, e_fBoolB, e_mExcF, e_tryNil, e_tryCons, e_mBM, e_mEqO, e_mNeO, e_fLenO, e_fBoolO, e_mtTO, e_mInO, e_mNotInO, e_mGetO, e_mSortedSet, e_mLstRg1, e_mDic1, e_mDic0, e_miRange3, e_mtYes, putD, List.getElem?_cons_zero, List.getElem?_cons_succ, List.set_cons_zero, List.set_cons_succ, List.map_cons, List.map_nil, List.length_cons, List.length_nil, List.cons_append, List.nil_append, List.append_nil, List.replicate, Nat.reduceAdd, Nat.reduceSub, Nat.reduceLeDiff, Nat.zero_add, true_and, and_true, reduceIte, Bool.false_eq_true, Bool.true_eq_false, Bool.not_true, Bool.not_false, w_mLst, w_mMake, w_miLst, w_gmUnl, w_mComp, w_mComp2, compL_nil, w_compL, w_mSetF, w_addRR, mEq_int']
      refine ⟨by omega, ?_⟩
      have next : ∀ S2, W n B L S2 → ¬ (t ∣ P ∧ Per fs P t) → ∃ (k2 : Nat) (t2 : Int) (c2 : Option D), rangeD (t + 1) k = rangeD t2 k2 ∧ 1 ≤ t2 ∧ t2 + k2 = P + 1 ∧ [some (D.ref i), some (.int P), some (.int t), none] = [some (.ref i), some (.int P), c2, none] ∧ (∀ t', 1 ≤ t' → t' < t2 → t' ∣ P → ¬ Per fs P t') ∧ W n B L S2 := fun S2 w hno =>
        ⟨k, t + 1, _, rfl, by omega, by push_cast at tk; omega, rfl, fun t' h1 h2 h3 h4 => by
          by_cases e : t' = t
          · subst e; exact hno ⟨h3, h4⟩
          · exact hm t' h1 (by omega) h3 h4, w⟩
      by_cases hd : P % t = 0
      · rw [if_pos (by rw [hd]; rfl)]
        have td := Int.dvd_of_emod_eq_zero hd
        have tl := Int.le_of_dvd hP td
        simp only [wipeD, List.set_cons_succ, List.set_cons_zero]
        refine wlk_ok w m ?_
        refine compA D.int (fun v => some (D.int ((v + t) % P))) (w.get m) fs [] (by simp; omega) (fun v _ acc C hl h => ?_) ?_
        · simp only [e_mNext, e_mSeq, e_mExpr, e_mRet, e_mRetN, e_mIfS, e_mBreak, e_mCont, e_mAsg, e_mPar, e_gmName, e_gmNil, e_gmCons, e_gmTup, e_gmSub, e_mVar, e_mC, e_mOp, e_mtB, e_mtT, e_mtNot, e_mtAnd, e_mtOr, e_mAnd, e_mOr, e_mAndT, e_mOrT, e_mIf, e_mNotB, e_mChain, e_maNil, e_maCons, e_mTup, e_mCall, e_mFld, e_mProp, e_mMeth, e_mUnO, e_mBinO, e_mCallO, e_mCMeth, e_mRaise, e_mTry, e_mFn, e_mNeg, e_mIsiB, e_mIsiO, e_mFor, e_miRange1, e_miRange2, e_miRangeW, e_miZip, e_zpT, e_mIsi2, e_miAny, e_seqT, e_powW, e_mAug, e_addI, e_fTupleT, e_mSl00, e_mSl01, e_mSl10, e_mSl11, e_miTup, e_body, e_addII, e_addIB, e_addSS, e_addTT, e_subII, e_mulII, e_fdivII, e_modII, e_powII, e_ltII, e_leII, e_gtII, e_geII, e_is, e_isNot, e_ixT, e_ixS, e_ixD, e_inD, e_fLenS, e_fLenT, e_fMax2, e_fMin2, e_fAbs, e_fIntI, e_fIntB, e_fBoolI, e_fBoolB, e_mExcF, e_tryNil, e_tryCons, e_mBM, e_mEqO, e_mNeO, e_fLenO, e_fBoolO, e_mtTO, e_mInO, e_mNotInO, e_mGetO, e_mSortedSet, e_mLstRg1, e_mDic1, e_mDic0, e_miRange3, e_mtYes, putD, List.getElem?_cons_zero, List.getElem?_cons_succ, List.set_cons_zero, List.set_cons_succ, List.map_cons, List.map_nil, List.length_cons, List.length_nil, List.cons_append, List.nil_append, List.append_nil, List.replicate, Nat.reduceAdd, Nat.reduceSub, Nat.reduceLeDiff, Nat.zero_add, true_and, and_true, reduceIte, Bool.false_eq_true, Bool.true_eq_false, Bool.not_true, Bool.not_false, w_mLst, w_mMake, w_miLst, w_gmUnl, w_mComp, w_mComp2, compL_nil, w_compL, w_mSetF, w_addRR]
          exact ⟨hP, hl, h⟩
        · rw [List.nil_append, map_some]
          intro j2 S2 e2 e3
          have w2 := w.new e2 e3
          refine srt_w (ns := fs.map fun v => (v + t) % P) w2 (by rw [List.map_map]; exact List.mem_cons_self) (by rw [List.length_map]; omega) fun k3 S3 ns so hmem w3 => ?_
          refine mEq_lstI (w3.get (List.mem_cons_self ..)) (w3.get (.tail _ (.tail _ m))) ?_
          have iff := shift_iff h hP (by omega) tl so hmem
          have w4 : W n B L S3 := w3.sub fun _ _ m => .tail _ (.tail _ m)
          by_cases e : ns = fs
          · simp only [decide_eq_true e, e_mNext, e_mSeq, e_mExpr, e_mRet, e_mRetN, e_mIfS, e_mBreak, e_mCont, e_mAsg, e_mPar, e_gmName, e_gmNil, e_gmCons, e_gmTup, e_gmSub, e_mVar, e_mC, e_mOp, e_mtB, e_mtT, e_mtNot, e_mtAnd, e_mtOr, e_mAnd, e_mOr, e_mAndT, e_mOrT, e_mIf, e_mNotB, e_mChain, e_maNil, e_maCons, e_mTup, e_mCall, e_mFld, e_mProp, e_mMeth, e_mUnO, e_mBinO, e_mCallO, e_mCMeth, e_mRaise, e_mTry, e_mFn, e_mNeg, e_mIsiB, e_mIsiO, e_mFor, e_miRange1, e_miRange2, e_miRangeW, e_miZip, e_zpT, e_mIsi2, e_miAny, e_seqT, e_powW, e_mAug, e_addI, e_fTupleT, e_mSl00, e_mSl01, e_mSl10, e_mSl11, e_miTup, e_body, e_addII, e_addIB, e_addSS, e_addTT, e_subII, e_mulII, e_fdivII, e_modII, e_powII, e_ltII, e_leII, e_gtII, e_geII, e_is, e_isNot, e_ixT, e_ixS, e_ixD, e_inD, e_fLenS, e_fLenT, e_fMax2, e_fMin2, e_fAbs, e_fIntI, e_fIntB, e_fBoolI, e_fBoolB, e_mExcF, e_tryNil, e_tryCons, e_mBM, e_mEqO, e_mNeO, e_fLenO, e_fBoolO, e_mtTO, e_mInO, e_mNotInO, e_mGetO, e_mSortedSet, e_mLstRg1, e_mDic1, e_mDic0, e_miRange3, e_mtYes, putD, List.getElem?_cons_zero, List.getElem?_cons_succ, List.set_cons_zero, List.set_cons_succ, List.map_cons, List.map_nil, List.length_cons, List.length_nil, List.cons_append, List.nil_append, List.append_nil, List.replicate, Nat.reduceAdd, Nat.reduceSub, Nat.reduceLeDiff, Nat.zero_add, true_and, and_true, reduceIte, Bool.false_eq_true, Bool.true_eq_false, Bool.not_true, Bool.not_false, w_mLst, w_mMake, w_miLst, w_gmUnl, w_mComp, w_mComp2, compL_nil, w_compL, w_mSetF, w_addRR]
            have := least_eq hP cc hs p0 pP (by omega) td (iff.mp e) hm
            subst this
            exact hq _ w4
          · simp only [decide_eq_false e, e_mNext, e_mSeq, e_mExpr, e_mRet, e_mRetN, e_mIfS, e_mBreak, e_mCont, e_mAsg, e_mPar, e_gmName, e_gmNil, e_gmCons, e_gmTup, e_gmSub, e_mVar, e_mC, e_mOp, e_mtB, e_mtT, e_mtNot, e_mtAnd, e_mtOr, e_mAnd, e_mOr, e_mAndT, e_mOrT, e_mIf, e_mNotB, e_mChain, e_maNil, e_maCons, e_mTup, e_mCall, e_mFld, e_mProp, e_mMeth, e_mUnO, e_mBinO, e_mCallO, e_mCMeth, e_mRaise, e_mTry, e_mFn, e_mNeg, e_mIsiB, e_mIsiO, e_mFor, e_miRange1, e_miRange2, e_miRangeW, e_miZip, e_zpT, e_mIsi2, e_miAny, e_seqT, e_powW, e_mAug, e_addI, e_fTupleT, e_mSl00, e_mSl01, e_mSl10, e_mSl11, e_miTup, e_body, e_addII, e_addIB, e_addSS, e_addTT, e_subII, e_mulII, e_fdivII, e_modII, e_powII, e_ltII, e_leII, e_gtII, e_geII, e_is, e_isNot, e_ixT, e_ixS, e_ixD, e_inD, e_fLenS, e_fLenT, e_fMax2, e_fMin2, e_fAbs, e_fIntI, e_fIntB, e_fBoolI, e_fBoolB, e_mExcF, e_tryNil, e_tryCons, e_mBM, e_mEqO, e_mNeO, e_fLenO, e_fBoolO, e_mtTO, e_mInO, e_mNotInO, e_mGetO, e_mSortedSet, e_mLstRg1, e_mDic1, e_mDic0, e_miRange3, e_mtYes, putD, List.getElem?_cons_zero, List.getElem?_cons_succ, List.set_cons_zero, List.set_cons_succ, List.map_cons, List.map_nil, List.length_cons, List.length_nil, List.cons_append, List.nil_append, List.append_nil, List.replicate, Nat.reduceAdd, Nat.reduceSub, Nat.reduceLeDiff, Nat.zero_add, true_and, and_true, reduceIte, Bool.false_eq_true, Bool.true_eq_false, Bool.not_true, Bool.not_false, w_mLst, w_mMake, w_miLst, w_gmUnl, w_mComp, w_mComp2, compL_nil, w_compL, w_mSetF, w_addRR]
            exact ih _ _ (next _ w4 fun z => e (iff.mpr z.2))
      · rw [if_neg (by simpa using hd)]
        exact ih _ _ (next _ w fun z => hd (Int.emod_eq_zero_of_dvd z.1))
end
end Lw

namespace Lw
open PySem PySem.Spec PyProof.Rows L2

/-- a set of moments written as fs modulo P, kept as gs modulo q -/
structure Pd (fs : List Int) (P : Int) (gs : List Int) (q : Int) : Prop where
  P0 : 0 < P
  PB : P < 100
  so : fs.Pairwise (· < ·)
  rg : ∀ f ∈ fs, 0 ≤ f ∧ f < P
  len : fs.length ≤ 24
  mks : Mk fs P gs q
theorem Pd.can {fs gs : List Int} {P q : Int} (h : Pd fs P gs q) : Can gs q ∧ ∀ m, m % q ∈ gs ↔ m % P ∈ fs := h.mks.can (Int.le_of_lt h.P0) (fun f m => (h.rg f m).1) h.so (.inr fun f m => (h.rg f m).2)
theorem Pd.ok {fs gs : List Int} {P q : Int} (h : Pd fs P gs q) : MOk gs q ∧ (gs = [] ↔ fs = []) ∧ (q = 0 ↔ P = 0 ∨ fs = []) ∧ (q = 0 → gs = fs) ∧ q ≤ P := h.mks.ok (Int.le_of_lt h.P0) (fun f m => (h.rg f m).1) h.so (.inr fun f m => (h.rg f m).2)
theorem Pd.mok {fs gs : List Int} {P q : Int} (h : Pd fs P gs q) : MOk fs P := ⟨Int.le_of_lt h.P0, fun g m => ⟨(h.rg g m).1, .inr (h.rg g m).2⟩, h.so⟩
section
variable {n : Nat} {B : Sto} {L L' : List (Nat × O)} {S S0 S' : Sto} {j j2 j3 i i6 i4 f : Nat} {o : O} {ds xs : List D} {d : D} {q : QD} {x : QX} {t p per k v a pc lim most P r l pts : Int} {K : QD} {md : MEnds} {fs gs hs fl cs : List Int} {c0 c1 c2 c3 c4 c5 c6 c7 c8 c9 c10 : Option D}
theorem eqv_bls : ∀ a b : List Bool, PyData.eqvAll (a.map PyData.bool) (b.map PyData.bool) = decide (a = b)
  | [], [] => by simp [PyData.eqvAll]
  | [], b :: bs => by simp [PyData.eqvAll]
  | a :: as, [] => by simp [PyData.eqvAll]
  | a :: as, b :: bs => by
    have e : PyData.eqv (.bool a) (.bool b) = (a == b) := by cases a <;> cases b <;> simp [PyData.eqv]
    simp only [List.map_cons, PyData.eqvAll, e, eqv_bls as bs, List.cons.injEq]
    by_cases h : a = b <;> by_cases h2 : as = bs <;> simp [h, h2]
theorem trL_bls {k : Nat} : ∀ ns : List Bool, treeL (tree (k + 1) S) (ns.map D.bl) = some (ns.map PyData.bool)
  | [] => rfl
  | i :: ns => by
    rw [List.map_cons, trL_cons, trL_bls ns, tr_bl]
    rfl
theorem sh_bls : ∀ ns : List Bool, SeqAt.shaped (.list (ns.map PyData.bool)) = true := fun ns => by
  have lay : ∀ ns : List Bool, PyData.canLayAll0 (ns.map PyData.bool) = true := fun ns => by
    induction ns with
    | nil => simp [PyData.canLayAll0]
    | cons i ns ih => simp [PyData.canLayAll0, PyData.canLay0, ih]
  have dep : ∀ ns : List Bool, PyData.depthAll (ns.map PyData.bool) ≤ 1 := fun ns => by
    induction ns with
    | nil => simp [PyData.depthAll]
    | cons i ns ih =>
      simp [PyData.depthAll, PyData.depth]
      omega
  have := dep ns
  simp [SeqAt.shaped, PyData.canLay0, lay, PyData.depth]
  omega
theorem mNe_lstB {a b : List Bool} (h1 : S[i]? = some (.lst (a.map D.bl))) (h2 : S[j]? = some (.lst (b.map D.bl))) (h : q (.bl (!decide (a = b))) S) : mNe (.ref i) (.ref j) S q := by
  refine mNe_of (a := .list (a.map PyData.bool)) (b := .list (b.map PyData.bool)) ?_ ?_ (sh_bls a) (sh_bls b) ?_
  · rw [tr_lst h1, trL_bls]; rfl
  · rw [tr_lst h2, trL_bls]; rfl
  · simp only [PyData.eqv, eqv_bls]
    exact h
/-- [period, firsts] -/
theorem mNe_pf {a b : Int} {as bs : List Int} (h1 : S[i]? = some (.lst [.int a, .tup (as.map D.int)])) (h2 : S[j]? = some (.lst [.int b, .tup (bs.map D.int)])) (e1 : a = b) (e2 : as = bs) (h : q (.bl false) S) : mNe (.ref i) (.ref j) S q := by
  subst e1 e2
  have sh : SeqAt.shaped (.list [.int a, .tuple (as.map PyData.int)]) = true := by
    have := dep_ints as
    simp [SeqAt.shaped, PyData.canLay0, PyData.canLayAll0, lay_ints, PyData.depth, PyData.depthAll]
    omega
  have tr : ∀ {i : Nat}, S[i]? = some (.lst [.int a, .tup (as.map D.int)]) → tree 9 S (.ref i) = some (.list [.int a, .tuple (as.map PyData.int)]) := fun h => by
    simp only [tr_lst h, trL_cons, trL_nil, tr_int, tr_tup, trL_ints, Option.map_some]
  refine mNe_of (tr h1) (tr h2) sh sh ?_
  have e : PyData.eqv (.list [.int a, .tuple (as.map PyData.int)]) (.list [.int a, .tuple (as.map PyData.int)]) = true := by simp [PyData.eqv, PyData.eqvAll, eqv_ints]
  rw [e]
  exact h
theorem pr3_w (w : W n B L S) (m7 : (j, mom gs p) ∈ L) (m6 : (i6, .lst (fs.map D.int)) ∈ L) (hp : Pd fs (l * pts) gs p) (hm : CMul l pts ∨ CMulW l pts)
    (hq : ∀ S', W n B L S' → md.rt (.bl true) S') : b__law_periodic_right_3 md [c0, some (.int l), some (.int pts), c3, c4, c5, some (.ref i6), some (.ref j), c8, c9, c10] S := by
  rw [e_b__law_periodic_right_3]
  simp only [e_mNext, e_mSeq, e_mExpr, e_mRet, e_mRetN, e_mIfS, e_mBreak, e_mCont, e_mAsg, e_mPar, e_gmName, e_gmNil, e_gmCons, e_gmTup, e_gmSub, e_mVar, e_mC, e_mOp, e_mtB, e_mtT, e_mtNot, e_mtAnd, e_mtOr, e_mAnd, e_mOr, e_mAndT, e_mOrT, e_mIf, e_mNotB, e_mChain, e_maNil, e_maCons, e_mTup, e_mCall, e_mFld, e_mProp, e_mMeth, e_mUnO, e_mBinO, e_mCallO, e_mCMeth, e_mRaise, e_mTry, e_mFn, e_mNeg, e_mIsiB, e_mIsiO, e_mFor, e_miRange1, e_miRange2, e_miRangeW, e_miZip, e_zpT, e_mIsi2, e_miAny, e_seqT, e_powW, e_mAug, e_addI, e_fTupleT, e_mSl00, e_mSl01, e_mSl10, e_mSl11, e_miTup, e_body, e_addII, e_addIB, e_addSS, e_addTT, e_subII, e_mulII, e_fdivII, e_modII, e_powII, e_ltII, e_leII, e_gtII, e_geII, e_is, e_isNot, e_ixT, e_ixS, e_ixD, e_inD, e_fLenS, e_fLenT, e_fMax2, e_fMin2, e_fAbs, e_fIntI, e_fIntB, e_fBoolI, e_fBoolB, e_mExcF, e_tryNil, e_tryCons, e_mBM, e_mEqO, e_mNeO, e_fLenO, e_fBoolO, e_mtTO, e_mInO, e_mNotInO, e_mGetO, e_mSortedSet, e_mLstRg1, e_mDic1, e_mDic0, e_miRange3, e_mtYes, putD, List.getElem?_cons_zero, List.getElem?_cons_succ, List.set_cons_zero, List.set_cons_succ, List.map_cons, List.map_nil, List.length_cons, List.length_nil, List.cons_append, List.nil_append, List.append_nil, List.replicate, Nat.reduceAdd, Nat.reduceSub, Nat.reduceLeDiff, Nat.zero_add, true_and, and_true, reduceIte, Bool.false_eq_true, Bool.true_eq_false, Bool.not_true, Bool.not_false, w_mLst, w_mMake, w_miLst, w_gmUnl, w_mComp, w_mComp2, compL_nil, w_compL, w_mSetF, w_addRR]
  obtain ⟨cc, hs⟩ := hp.can
  obtain ⟨_, e1, e2, _, _⟩ := hp.ok
  have P0 := hp.P0
  have lf := hp.len
  refine tuple_w w m6 ?_
  try simp only [e_mNext, e_mSeq, e_mExpr, e_mRet, e_mRetN, e_mIfS, e_mBreak, e_mCont, e_mAsg, e_mPar, e_gmName, e_gmNil, e_gmCons, e_gmTup, e_gmSub, e_mVar, e_mC, e_mOp, e_mtB, e_mtT, e_mtNot, e_mtAnd, e_mtOr, e_mAnd, e_mOr, e_mAndT, e_mOrT, e_mIf, e_mNotB, e_mChain, e_maNil, e_maCons, e_mTup, e_mCall, e_mFld, e_mProp, e_mMeth, e_mUnO, e_mBinO, e_mCallO, e_mCMeth, e_mRaise, e_mTry, e_mFn, e_mNeg, e_mIsiB, e_mIsiO, e_mFor, e_miRange1, e_miRange2, e_miRangeW, e_miZip, e_zpT, e_mIsi2, e_miAny, e_seqT, e_powW, e_mAug, e_addI, e_fTupleT, e_mSl00, e_mSl01, e_mSl10, e_mSl11, e_miTup, e_body, e_addII, e_addIB, e_addSS, e_addTT, e_subII, e_mulII, e_fdivII, e_modII, e_powII, e_ltII, e_leII, e_gtII, e_geII, e_is, e_isNot, e_ixT, e_ixS, e_ixD, e_inD, e_fLenS, e_fLenT, e_fMax2, e_fMin2, e_fAbs, e_fIntI, e_fIntB, e_fBoolI, e_fBoolB, e_mExcF, e_tryNil, e_tryCons, e_mBM, e_mEqO, e_mNeO, e_fLenO, e_fBoolO, e_mtTO, e_mInO, e_mNotInO, e_mGetO, e_mSortedSet, e_mLstRg1, e_mDic1, e_mDic0, e_miRange3, e_mtYes, putD, List.getElem?_cons_zero, List.getElem?_cons_succ, List.set_cons_zero, List.set_cons_succ, List.map_cons, List.map_nil, List.length_cons, List.length_nil, List.cons_append, List.nil_append, List.append_nil, List.replicate, Nat.reduceAdd, Nat.reduceSub, Nat.reduceLeDiff, Nat.zero_add, true_and, and_true, reduceIte, Bool.false_eq_true, Bool.true_eq_false, Bool.not_true, Bool.not_false, w_mLst, w_mMake, w_miLst, w_gmUnl, w_mComp, w_mComp2, compL_nil, w_compL, w_mSetF, w_addRR]
  refine ⟨hm, ?_⟩
  intro k S1 ek eS
  subst ek eS
  refine init_t w (by omega) (fun f m => (hp.rg f m).1) hp.so (Int.le_of_lt P0) (.inr fun f m => (hp.rg f m).2) fun S2 gs2 p2 hk2 w2 => ?_
  obtain ⟨cc2, hs2⟩ := hk2.can (Int.le_of_lt P0) (fun f m => (hp.rg f m).1) hp.so (.inr fun f m => (hp.rg f m).2)
  have u := cc.uniq cc2 fun m _ => by rw [hs m, hs2 m]
  refine ⟨rfl, ?_⟩
  refine neO_w w2 (.tail _ m7) (List.mem_cons_self ..) ?_
  rw [decide_eq_true u]
  simp only [e_mNext, e_mSeq, e_mExpr, e_mRet, e_mRetN, e_mIfS, e_mBreak, e_mCont, e_mAsg, e_mPar, e_gmName, e_gmNil, e_gmCons, e_gmTup, e_gmSub, e_mVar, e_mC, e_mOp, e_mtB, e_mtT, e_mtNot, e_mtAnd, e_mtOr, e_mAnd, e_mOr, e_mAndT, e_mOrT, e_mIf, e_mNotB, e_mChain, e_maNil, e_maCons, e_mTup, e_mCall, e_mFld, e_mProp, e_mMeth, e_mUnO, e_mBinO, e_mCallO, e_mCMeth, e_mRaise, e_mTry, e_mFn, e_mNeg, e_mIsiB, e_mIsiO, e_mFor, e_miRange1, e_miRange2, e_miRangeW, e_miZip, e_zpT, e_mIsi2, e_miAny, e_seqT, e_powW, e_mAug, e_addI, e_fTupleT, e_mSl00, e_mSl01, e_mSl10, e_mSl11, e_miTup, e_body, e_addII, e_addIB, e_addSS, e_addTT, e_subII, e_mulII, e_fdivII, e_modII, e_powII, e_ltII, e_leII, e_gtII, e_geII, e_is, e_isNot, e_ixT, e_ixS, e_ixD, e_inD, e_fLenS, e_fLenT, e_fMax2, e_fMin2, e_fAbs, e_fIntI, e_fIntB, e_fBoolI, e_fBoolB, e_mExcF, e_tryNil, e_tryCons, e_mBM, e_mEqO, e_mNeO, e_fLenO, e_fBoolO, e_mtTO, e_mInO, e_mNotInO, e_mGetO, e_mSortedSet, e_mLstRg1, e_mDic1, e_mDic0, e_miRange3, e_mtYes, putD, List.getElem?_cons_zero, List.getElem?_cons_succ, List.set_cons_zero, List.set_cons_succ, List.map_cons, List.map_nil, List.length_cons, List.length_nil, List.cons_append, List.nil_append, List.append_nil, List.replicate, Nat.reduceAdd, Nat.reduceSub, Nat.reduceLeDiff, Nat.zero_add, true_and, and_true, reduceIte, Bool.false_eq_true, Bool.true_eq_false, Bool.not_true, Bool.not_false, w_mLst, w_mMake, w_miLst, w_gmUnl, w_mComp, w_mComp2, compL_nil, w_compL, w_mSetF, w_addRR]
  replace w := W.sub (L' := L) w2 fun _ _ m => .tail _ m
  refine ins_ok w m7 ?_
  refine bool_w w m7 ?_
  try simp only [e_mNext, e_mSeq, e_mExpr, e_mRet, e_mRetN, e_mIfS, e_mBreak, e_mCont, e_mAsg, e_mPar, e_gmName, e_gmNil, e_gmCons, e_gmTup, e_gmSub, e_mVar, e_mC, e_mOp, e_mtB, e_mtT, e_mtNot, e_mtAnd, e_mtOr, e_mAnd, e_mOr, e_mAndT, e_mOrT, e_mIf, e_mNotB, e_mChain, e_maNil, e_maCons, e_mTup, e_mCall, e_mFld, e_mProp, e_mMeth, e_mUnO, e_mBinO, e_mCallO, e_mCMeth, e_mRaise, e_mTry, e_mFn, e_mNeg, e_mIsiB, e_mIsiO, e_mFor, e_miRange1, e_miRange2, e_miRangeW, e_miZip, e_zpT, e_mIsi2, e_miAny, e_seqT, e_powW, e_mAug, e_addI, e_fTupleT, e_mSl00, e_mSl01, e_mSl10, e_mSl11, e_miTup, e_body, e_addII, e_addIB, e_addSS, e_addTT, e_subII, e_mulII, e_fdivII, e_modII, e_powII, e_ltII, e_leII, e_gtII, e_geII, e_is, e_isNot, e_ixT, e_ixS, e_ixD, e_inD, e_fLenS, e_fLenT, e_fMax2, e_fMin2, e_fAbs, e_fIntI, e_fIntB, e_fBoolI, e_fBoolB, e_mExcF, e_tryNil, e_tryCons, e_mBM, e_mEqO, e_mNeO, e_fLenO, e_fBoolO, e_mtTO, e_mInO, e_mNotInO, e_mGetO, e_mSortedSet, e_mLstRg1, e_mDic1, e_mDic0, e_miRange3, e_mtYes, putD, List.getElem?_cons_zero, List.getElem?_cons_succ, List.set_cons_zero, List.set_cons_succ, List.map_cons, List.map_nil, List.length_cons, List.length_nil, List.cons_append, List.nil_append, List.append_nil, List.replicate, Nat.reduceAdd, Nat.reduceSub, Nat.reduceLeDiff, Nat.zero_add, true_and, and_true, reduceIte, Bool.false_eq_true, Bool.true_eq_false, Bool.not_true, Bool.not_false, w_mLst, w_mMake, w_miLst, w_gmUnl, w_mComp, w_mComp2, compL_nil, w_compL, w_mSetF, w_addRR]
  refine ⟨Nat.zero_le _, ?_⟩
  intro i7 S3 e3 e4
  replace w := w.new e3 e4
  refine mNe_lstI (b := []) (w.get (.tail _ m6)) (w.get (List.mem_cons_self ..)) ?_
  have eb : decide (gs ≠ []) = !decide (fs = []) := by
    by_cases h : fs = []
    · simp [h, e1.mpr h]
    · have : gs ≠ [] := fun z => h (e1.mp z)
      simp [h, this]
  rw [eb, mNe_bl, beq_self_eq_true]
  simp only [e_mNext, e_mSeq, e_mExpr, e_mRet, e_mRetN, e_mIfS, e_mBreak, e_mCont, e_mAsg, e_mPar, e_gmName, e_gmNil, e_gmCons, e_gmTup, e_gmSub, e_mVar, e_mC, e_mOp, e_mtB, e_mtT, e_mtNot, e_mtAnd, e_mtOr, e_mAnd, e_mOr, e_mAndT, e_mOrT, e_mIf, e_mNotB, e_mChain, e_maNil, e_maCons, e_mTup, e_mCall, e_mFld, e_mProp, e_mMeth, e_mUnO, e_mBinO, e_mCallO, e_mCMeth, e_mRaise, e_mTry, e_mFn, e_mNeg, e_mIsiB, e_mIsiO, e_mFor, e_miRange1, e_miRange2, e_miRangeW, e_miZip, e_zpT, e_mIsi2, e_miAny, e_seqT, e_powW, e_mAug, e_addI, e_fTupleT, e_mSl00, e_mSl01, e_mSl10, e_mSl11, e_miTup, e_body, e_addII, e_addIB, e_addSS, e_addTT, e_subII, e_mulII, e_fdivII, e_modII, e_powII, e_ltII, e_leII, e_gtII, e_geII, e_is, e_isNot, e_ixT, e_ixS, e_ixD, e_inD, e_fLenS, e_fLenT, e_fMax2, e_fMin2, e_fAbs, e_fIntI, e_fIntB, e_fBoolI, e_fBoolB, e_mExcF, e_tryNil, e_tryCons, e_mBM, e_mEqO, e_mNeO, e_fLenO, e_fBoolO, e_mtTO, e_mInO, e_mNotInO, e_mGetO, e_mSortedSet, e_mLstRg1, e_mDic1, e_mDic0, e_miRange3, e_mtYes, putD, List.getElem?_cons_zero, List.getElem?_cons_succ, List.set_cons_zero, List.set_cons_succ, List.map_cons, List.map_nil, List.length_cons, List.length_nil, List.cons_append, List.nil_append, List.append_nil, List.replicate, Nat.reduceAdd, Nat.reduceSub, Nat.reduceLeDiff, Nat.zero_add, true_and, and_true, reduceIte, Bool.false_eq_true, Bool.true_eq_false, Bool.not_true, Bool.not_false, w_mLst, w_mMake, w_miLst, w_gmUnl, w_mComp, w_mComp2, compL_nil, w_compL, w_mSetF, w_addRR]
  refine ⟨Nat.zero_le _, ?_⟩
  intro i8 S4 e5 e6
  replace w := w.new e5 e6
  refine mEq_lstI (b := []) (w.get (.tail _ (.tail _ m6))) (w.get (List.mem_cons_self ..)) ?_
  by_cases h : fs = []
  · simp only [decide_eq_true h, e_mNext, e_mSeq, e_mExpr, e_mRet, e_mRetN, e_mIfS, e_mBreak, e_mCont, e_mAsg, e_mPar, e_gmName, e_gmNil, e_gmCons, e_gmTup, e_gmSub, e_mVar, e_mC, e_mOp, e_mtB, e_mtT, e_mtNot, e_mtAnd, e_mtOr, e_mAnd, e_mOr, e_mAndT, e_mOrT, e_mIf, e_mNotB, e_mChain, e_maNil, e_maCons, e_mTup, e_mCall, e_mFld, e_mProp, e_mMeth, e_mUnO, e_mBinO, e_mCallO, e_mCMeth, e_mRaise, e_mTry, e_mFn, e_mNeg, e_mIsiB, e_mIsiO, e_mFor, e_miRange1, e_miRange2, e_miRangeW, e_miZip, e_zpT, e_mIsi2, e_miAny, e_seqT, e_powW, e_mAug, e_addI, e_fTupleT, e_mSl00, e_mSl01, e_mSl10, e_mSl11, e_miTup, e_body, e_addII, e_addIB, e_addSS, e_addTT, e_subII, e_mulII, e_fdivII, e_modII, e_powII, e_ltII, e_leII, e_gtII, e_geII, e_is, e_isNot, e_ixT, e_ixS, e_ixD, e_inD, e_fLenS, e_fLenT, e_fMax2, e_fMin2, e_fAbs, e_fIntI, e_fIntB, e_fBoolI, e_fBoolB, e_mExcF, e_tryNil, e_tryCons, e_mBM, e_mEqO, e_mNeO, e_fLenO, e_fBoolO, e_mtTO, e_mInO, e_mNotInO, e_mGetO, e_mSortedSet, e_mLstRg1, e_mDic1, e_mDic0, e_miRange3, e_mtYes, putD, List.getElem?_cons_zero, List.getElem?_cons_succ, List.set_cons_zero, List.set_cons_succ, List.map_cons, List.map_nil, List.length_cons, List.length_nil, List.cons_append, List.nil_append, List.append_nil, List.replicate, Nat.reduceAdd, Nat.reduceSub, Nat.reduceLeDiff, Nat.zero_add, true_and, and_true, reduceIte, Bool.false_eq_true, Bool.true_eq_false, Bool.not_true, Bool.not_false, w_mLst, w_mMake, w_miLst, w_gmUnl, w_mComp, w_mComp2, compL_nil, w_compL, w_mSetF, w_addRR]
    exact hq _ (w.sub fun _ _ m => .tail _ (.tail _ m))
  · simp only [decide_eq_false h, e_mNext, e_mSeq, e_mExpr, e_mRet, e_mRetN, e_mIfS, e_mBreak, e_mCont, e_mAsg, e_mPar, e_gmName, e_gmNil, e_gmCons, e_gmTup, e_gmSub, e_mVar, e_mC, e_mOp, e_mtB, e_mtT, e_mtNot, e_mtAnd, e_mtOr, e_mAnd, e_mOr, e_mAndT, e_mOrT, e_mIf, e_mNotB, e_mChain, e_maNil, e_maCons, e_mTup, e_mCall, e_mFld, e_mProp, e_mMeth, e_mUnO, e_mBinO, e_mCallO, e_mCMeth, e_mRaise, e_mTry, e_mFn, e_mNeg, e_mIsiB, e_mIsiO, e_mFor, e_miRange1, e_miRange2, e_miRangeW, e_miZip, e_zpT, e_mIsi2, e_miAny, e_seqT, e_powW, e_mAug, e_addI, e_fTupleT, e_mSl00, e_mSl01, e_mSl10, e_mSl11, e_miTup, e_body, e_addII, e_addIB, e_addSS, e_addTT, e_subII, e_mulII, e_fdivII, e_modII, e_powII, e_ltII, e_leII, e_gtII, e_geII, e_is, e_isNot, e_ixT, e_ixS, e_ixD, e_inD, e_fLenS, e_fLenT, e_fMax2, e_fMin2, e_fAbs, e_fIntI, e_fIntB, e_fBoolI, e_fBoolB, e_mExcF, e_tryNil, e_tryCons, e_mBM, e_mEqO, e_mNeO, e_fLenO, e_fBoolO, e_mtTO, e_mInO, e_mNotInO, e_mGetO, e_mSortedSet, e_mLstRg1, e_mDic1, e_mDic0, e_miRange3, e_mtYes, putD, List.getElem?_cons_zero, List.getElem?_cons_succ, List.set_cons_zero, List.set_cons_succ, List.map_cons, List.map_nil, List.length_cons, List.length_nil, List.cons_append, List.nil_append, List.append_nil, List.replicate, Nat.reduceAdd, Nat.reduceSub, Nat.reduceLeDiff, Nat.zero_add, true_and, and_true, reduceIte, Bool.false_eq_true, Bool.true_eq_false, Bool.not_true, Bool.not_false, w_mLst, w_mMake, w_miLst, w_gmUnl, w_mComp, w_mComp2, compL_nil, w_compL, w_mSetF, w_addRR]
    intro k S5 ek eS
    subst ek eS
    refine init_w w (.tail _ (.tail _ m6)) (by omega) (fun f m => (hp.rg f m).1) hp.so (Int.le_refl _) (.inl rfl) fun S6 gs3 p3 hk3 w3 => ?_
    obtain ⟨_, _, e7, _, _⟩ := hk3.ok (Int.le_refl _) (fun f m => (hp.rg f m).1) hp.so (.inl rfl)
    have p30 : p3 = 0 := e7.mpr (.inl rfl)
    have pn : p ≠ 0 := fun z => by
      rcases e2.mp z with z | z
      · omega
      · exact h z
    refine ⟨rfl, ?_⟩
    refine neO_w w3 (.tail _ (.tail _ (.tail _ m7))) (List.mem_cons_self ..) ?_
    rw [decide_eq_false (by rintro ⟨_, z⟩; omega)]
    exact hq _ (w3.sub fun _ _ m => .tail _ (.tail _ (.tail _ m)))
theorem pr4_w (w : W n B L S) (m7 : (j, mom gs p) ∈ L) (m6 : (i6, .lst (fs.map D.int)) ∈ L) (hp : Pd fs (l * pts) gs p) (hm : CMul l pts ∨ CMulW l pts) (l0 : 0 < l) (l1 : l ≤ 12) (p0 : 0 < pts) (b0 : 0 ≤ r)
    (hq : ∀ S', W n B L S' → md.rt (.bl true) S') : b__law_periodic_right_4 md [c0, some (.int l), some (.int pts), c3, c4, c5, some (.ref i6), some (.ref j), c8, c9, some (.int (l * pts * r))] S := by
  rw [e_b__law_periodic_right_4]
  simp only [e_mNext, e_mSeq, e_mExpr, e_mRet, e_mRetN, e_mIfS, e_mBreak, e_mCont, e_mAsg, e_mPar, e_gmName, e_gmNil, e_gmCons, e_gmTup, e_gmSub, e_mVar, e_mC, e_mOp, e_mtB, e_mtT, e_mtNot, e_mtAnd, e_mtOr, e_mAnd, e_mOr, e_mAndT, e_mOrT, e_mIf, e_mNotB, e_mChain, e_maNil, e_maCons, e_mTup, e_mCall, e_mFld, e_mProp, e_mMeth, e_mUnO, e_mBinO, e_mCallO, e_mCMeth, e_mRaise, e_mTry, e_mFn, e_mNeg, e_mIsiB, e_mIsiO, e_mFor, e_miRange1, e_miRange2, e_miRangeW, e_miZip, e_zpT, e_mIsi2, e_miAny, e_seqT, e_powW, e_mAug, e_addI, e_fTupleT, e_mSl00, e_mSl01, e_mSl10, e_mSl11, e_miTup, e_body, e_addII, e_addIB, e_addSS, e_addTT, e_subII, e_mulII, e_fdivII, e_modII, e_powII, e_ltII, e_leII, e_gtII, e_geII, e_is, e_isNot, e_ixT, e_ixS, e_ixD, e_inD, e_fLenS, e_fLenT, e_fMax2, e_fMin2, e_fAbs, e_fIntI, e_fIntB, e_fBoolI, e_fBoolB, e_mExcF, e_tryNil, e_tryCons, e_mBM, e_mEqO, e_mNeO, e_fLenO, e_fBoolO, e_mtTO, e_mInO, e_mNotInO, e_mGetO, e_mSortedSet, e_mLstRg1, e_mDic1, e_mDic0, e_miRange3, e_mtYes, putD, List.getElem?_cons_zero, List.getElem?_cons_succ, List.set_cons_zero, List.set_cons_succ, List.map_cons, List.map_nil, List.length_cons, List.length_nil, List.cons_append, List.nil_append, List.append_nil, List.replicate, Nat.reduceAdd, Nat.reduceSub, Nat.reduceLeDiff, Nat.zero_add, true_and, and_true, reduceIte, Bool.false_eq_true, Bool.true_eq_false, Bool.not_true, Bool.not_false, w_mLst, w_mMake, w_miLst, w_gmUnl, w_mComp, w_mComp2, compL_nil, w_compL, w_mSetF, w_addRR]
  obtain ⟨cc, hs⟩ := hp.can
  have P0 := hp.P0
  have lP : l ≤ l * pts := by
    have := Int.mul_le_mul_of_nonneg_left (show 1 ≤ pts by omega) (show 0 ≤ l by omega)
    omega
  have g0 : 0 ≤ l * pts * r := Int.mul_nonneg (by omega) b0
  refine ⟨⟨by omega, by omega⟩, ?_⟩
  rw [rangeD_map]
  simp only [wipeD, List.set_cons_succ, List.set_cons_zero]
  refine compA D.int (fun v => some (D.bl (decide (v ∈ fs)))) trivial ((List.range l.toNat).map fun i : Nat => (0 : Int) + i) [] (by simp; omega) (fun v hv acc C hl h => ?_) ?_
  · have hv : 0 ≤ v ∧ v < l := by
      obtain ⟨a, ha, rfl⟩ := List.mem_map.mp hv
      have := List.mem_range.mp ha
      omega
    simp only [e_mNext, e_mSeq, e_mExpr, e_mRet, e_mRetN, e_mIfS, e_mBreak, e_mCont, e_mAsg, e_mPar, e_gmName, e_gmNil, e_gmCons, e_gmTup, e_gmSub, e_mVar, e_mC, e_mOp, e_mtB, e_mtT, e_mtNot, e_mtAnd, e_mtOr, e_mAnd, e_mOr, e_mAndT, e_mOrT, e_mIf, e_mNotB, e_mChain, e_maNil, e_maCons, e_mTup, e_mCall, e_mFld, e_mProp, e_mMeth, e_mUnO, e_mBinO, e_mCallO, e_mCMeth, e_mRaise, e_mTry, e_mFn, e_mNeg, e_mIsiB, e_mIsiO, e_mFor, e_miRange1, e_miRange2, e_miRangeW, e_miZip, e_zpT, e_mIsi2, e_miAny, e_seqT, e_powW, e_mAug, e_addI, e_fTupleT, e_mSl00, e_mSl01, e_mSl10, e_mSl11, e_miTup, e_body, e_addII, e_addIB, e_addSS, e_addTT, e_subII, e_mulII, e_fdivII, e_modII, e_powII, e_ltII, e_leII, e_gtII, e_geII, e_is, e_isNot, e_ixT, e_ixS, e_ixD, e_inD, e_fLenS, e_fLenT, e_fMax2, e_fMin2, e_fAbs, e_fIntI, e_fIntB, e_fBoolI, e_fBoolB, e_mExcF, e_tryNil, e_tryCons, e_mBM, e_mEqO, e_mNeO, e_fLenO, e_fBoolO, e_mtTO, e_mInO, e_mNotInO, e_mGetO, e_mSortedSet, e_mLstRg1, e_mDic1, e_mDic0, e_miRange3, e_mtYes, putD, List.getElem?_cons_zero, List.getElem?_cons_succ, List.set_cons_zero, List.set_cons_succ, List.map_cons, List.map_nil, List.length_cons, List.length_nil, List.cons_append, List.nil_append, List.append_nil, List.replicate, Nat.reduceAdd, Nat.reduceSub, Nat.reduceLeDiff, Nat.zero_add, true_and, and_true, reduceIte, Bool.false_eq_true, Bool.true_eq_false, Bool.not_true, Bool.not_false, w_mLst, w_mMake, w_miLst, w_gmUnl, w_mComp, w_mComp2, compL_nil, w_compL, w_mSetF, w_addRR]
    refine ins_ok w m7 ?_
    refine contains_w w m7 cc.q0 ?_
    have e : decide ((l * pts * r + v) % p ∈ gs) = decide (v ∈ fs) := by
      have e2 : (l * pts * r + v) % (l * pts) = v := by
        rw [Int.add_comm, Int.add_mul_emod_self_left, Int.emod_eq_of_lt hv.1 (by omega)]
      have := hs (l * pts * r + v)
      rw [e2] at this
      simp only [this]
    rw [decide_eq_true (show 0 ≤ l * pts * r + v by omega), Bool.true_and, e]
    exact ⟨hl, h⟩
  · rw [List.nil_append, map_some]
    intro i7 S1 e1 e2
    replace w := w.new e1 e2
    refine ⟨⟨by omega, by omega⟩, ?_⟩
    try simp only [wipeD, List.set_cons_succ, List.set_cons_zero]
    refine compA D.int (fun v => some (D.bl (decide (v ∈ fs)))) trivial ((List.range l.toNat).map fun i : Nat => (0 : Int) + i) [] (by simp; omega) (fun v hv acc C hl h => ?_) ?_
    · simp only [e_mNext, e_mSeq, e_mExpr, e_mRet, e_mRetN, e_mIfS, e_mBreak, e_mCont, e_mAsg, e_mPar, e_gmName, e_gmNil, e_gmCons, e_gmTup, e_gmSub, e_mVar, e_mC, e_mOp, e_mtB, e_mtT, e_mtNot, e_mtAnd, e_mtOr, e_mAnd, e_mOr, e_mAndT, e_mOrT, e_mIf, e_mNotB, e_mChain, e_maNil, e_maCons, e_mTup, e_mCall, e_mFld, e_mProp, e_mMeth, e_mUnO, e_mBinO, e_mCallO, e_mCMeth, e_mRaise, e_mTry, e_mFn, e_mNeg, e_mIsiB, e_mIsiO, e_mFor, e_miRange1, e_miRange2, e_miRangeW, e_miZip, e_zpT, e_mIsi2, e_miAny, e_seqT, e_powW, e_mAug, e_addI, e_fTupleT, e_mSl00, e_mSl01, e_mSl10, e_mSl11, e_miTup, e_body, e_addII, e_addIB, e_addSS, e_addTT, e_subII, e_mulII, e_fdivII, e_modII, e_powII, e_ltII, e_leII, e_gtII, e_geII, e_is, e_isNot, e_ixT, e_ixS, e_ixD, e_inD, e_fLenS, e_fLenT, e_fMax2, e_fMin2, e_fAbs, e_fIntI, e_fIntB, e_fBoolI, e_fBoolB, e_mExcF, e_tryNil, e_tryCons, e_mBM, e_mEqO, e_mNeO, e_fLenO, e_fBoolO, e_mtTO, e_mInO, e_mNotInO, e_mGetO, e_mSortedSet, e_mLstRg1, e_mDic1, e_mDic0, e_miRange3, e_mtYes, putD, List.getElem?_cons_zero, List.getElem?_cons_succ, List.set_cons_zero, List.set_cons_succ, List.map_cons, List.map_nil, List.length_cons, List.length_nil, List.cons_append, List.nil_append, List.append_nil, List.replicate, Nat.reduceAdd, Nat.reduceSub, Nat.reduceLeDiff, Nat.zero_add, true_and, and_true, reduceIte, Bool.false_eq_true, Bool.true_eq_false, Bool.not_true, Bool.not_false, w_mLst, w_mMake, w_miLst, w_gmUnl, w_mComp, w_mComp2, compL_nil, w_compL, w_mSetF, w_addRR, in_lstI (w.get (.tail _ m6))]
      exact ⟨hl, h⟩
    · rw [List.nil_append, map_some]
      intro i8 S2 e3 e4
      replace w := w.new e3 e4
      refine mNe_lstB (a := ((List.range l.toNat).map fun i : Nat => (0 : Int) + i).map fun v => decide (v ∈ fs)) (b := ((List.range l.toNat).map fun i : Nat => (0 : Int) + i).map fun v => decide (v ∈ fs)) (by rw [w.get (.tail _ (List.mem_cons_self ..))]; simp only [List.map_map, Function.comp_def]) (by rw [w.get (List.mem_cons_self ..)]; simp only [List.map_map, Function.comp_def]) ?_
      simp only [decide_true, Bool.not_true, e_mNext, e_mSeq, e_mExpr, e_mRet, e_mRetN, e_mIfS, e_mBreak, e_mCont, e_mAsg, e_mPar, e_gmName, e_gmNil, e_gmCons, e_gmTup, e_gmSub, e_mVar, e_mC, e_mOp, e_mtB, e_mtT, e_mtNot, e_mtAnd, e_mtOr, e_mAnd, e_mOr, e_mAndT, e_mOrT, e_mIf, e_mNotB, e_mChain, e_maNil, e_maCons, e_mTup, e_mCall, e_mFld, e_mProp, e_mMeth, e_mUnO, e_mBinO, e_mCallO, e_mCMeth, e_mRaise, e_mTry, e_mFn, e_mNeg, e_mIsiB, e_mIsiO, e_mFor, e_miRange1, e_miRange2, e_miRangeW, e_miZip, e_zpT, e_mIsi2, e_miAny, e_seqT, e_powW, e_mAug, e_addI, e_fTupleT, e_mSl00, e_mSl01, e_mSl10, e_mSl11, e_miTup, e_body, e_addII, e_addIB, e_addSS, e_addTT, e_subII, e_mulII, e_fdivII, e_modII, e_powII, e_ltII, e_leII, e_gtII, e_geII, e_is, e_isNot, e_ixT, e_ixS, e_ixD, e_inD, e_fLenS, e_fLenT, e_fMax2, e_fMin2, e_fAbs, e_fIntI, e_fIntB, e_fBoolI, e_fBoolB, e_mExcF, e_tryNil, e_tryCons, e_mBM, e_mEqO, e_mNeO, e_fLenO, e_fBoolO, e_mtTO, e_mInO, e_mNotInO, e_mGetO, e_mSortedSet, e_mLstRg1, e_mDic1, e_mDic0, e_miRange3, e_mtYes, putD, List.getElem?_cons_zero, List.getElem?_cons_succ, List.set_cons_zero, List.set_cons_succ, List.map_cons, List.map_nil, List.length_cons, List.length_nil, List.cons_append, List.nil_append, List.append_nil, List.replicate, Nat.reduceAdd, Nat.reduceSub, Nat.reduceLeDiff, Nat.zero_add, true_and, and_true, reduceIte, Bool.false_eq_true, Bool.true_eq_false, Bool.not_true, Bool.not_false, w_mLst, w_mMake, w_miLst, w_gmUnl, w_mComp, w_mComp2, compL_nil, w_compL, w_mSetF, w_addRR]
      exact pr3_w (w.sub fun _ _ m => .tail _ (.tail _ m)) m7 m6 hp hm hq
theorem pr6_w (w : W n B L S) (m7 : (j, mom gs p) ∈ L) (m6 : (i6, .lst (fs.map D.int)) ∈ L) (hp : Pd fs (l * pts) gs p) (l0 : 0 < l) (l1 : l ≤ 12) (p0 : 0 < pts) (p1 : pts ≤ 4)
    (hq : ∀ S', W n B L S' → md.rt (.bl true) S') : b__law_periodic_right_6 md [some (.ref n), some (.int l), some (.int pts), c3, c4, c5, some (.ref i6), some (.ref j), c8, c9, c10] S := by
  rw [e_b__law_periodic_right_6, e_b__law_periodic_right_5, e_b__law_periodic_right_2]
  simp only [e_mNext, e_mSeq, e_mExpr, e_mRet, e_mRetN, e_mIfS, e_mBreak, e_mCont, e_mAsg, e_mPar, e_gmName, e_gmNil, e_gmCons, e_gmTup, e_gmSub, e_mVar, e_mC, e_mOp, e_mtB, e_mtT, e_mtNot, e_mtAnd, e_mtOr, e_mAnd, e_mOr, e_mAndT, e_mOrT, e_mIf, e_mNotB, e_mChain, e_maNil, e_maCons, e_mTup, e_mCall, e_mFld, e_mProp, e_mMeth, e_mUnO, e_mBinO, e_mCallO, e_mCMeth, e_mRaise, e_mTry, e_mFn, e_mNeg, e_mIsiB, e_mIsiO, e_mFor, e_miRange1, e_miRange2, e_miRangeW, e_miZip, e_zpT, e_mIsi2, e_miAny, e_seqT, e_powW, e_mAug, e_addI, e_fTupleT, e_mSl00, e_mSl01, e_mSl10, e_mSl11, e_miTup, e_body, e_addII, e_addIB, e_addSS, e_addTT, e_subII, e_mulII, e_fdivII, e_modII, e_powII, e_ltII, e_leII, e_gtII, e_geII, e_is, e_isNot, e_ixT, e_ixS, e_ixD, e_inD, e_fLenS, e_fLenT, e_fMax2, e_fMin2, e_fAbs, e_fIntI, e_fIntB, e_fBoolI, e_fBoolB, e_mExcF, e_tryNil, e_tryCons, e_mBM, e_mEqO, e_mNeO, e_fLenO, e_fBoolO, e_mtTO, e_mInO, e_mNotInO, e_mGetO, e_mSortedSet, e_mLstRg1, e_mDic1, e_mDic0, e_miRange3, e_mtYes, putD, List.getElem?_cons_zero, List.getElem?_cons_succ, List.set_cons_zero, List.set_cons_succ, List.map_cons, List.map_nil, List.length_cons, List.length_nil, List.cons_append, List.nil_append, List.append_nil, List.replicate, Nat.reduceAdd, Nat.reduceSub, Nat.reduceLeDiff, Nat.zero_add, true_and, and_true, reduceIte, Bool.false_eq_true, Bool.true_eq_false, Bool.not_true, Bool.not_false, w_mLst, w_mMake, w_miLst, w_gmUnl, w_mComp, w_mComp2, compL_nil, w_compL, w_mSetF, w_addRR]
  obtain ⟨cc, hs⟩ := hp.can
  have P0 := hp.P0
  have PB := hp.PB
  have hm : CMul l pts ∨ CMulW l pts := cmul_l (by omega) (by omega)
  have e4 : 4 * l * pts = 4 * (l * pts) := Int.mul_assoc ..
  refine ⟨cmul_l (by decide) (by decide), cmul_l (by omega) (by omega), ⟨by omega, by omega⟩, ?_⟩
  rw [rangeD_map]
  refine forL_ind (fun items sd S' => ∃ (vs : List Int) (e9 : Option D), items = vs.map D.int ∧ (∀ v ∈ vs, 0 ≤ v) ∧ sd = [some (.ref n), some (.int l), some (.int pts), c3, c4, c5, some (.ref i6), some (.ref j), c8, e9, c10] ∧ W n B L S') ?_ ?_ _ _ _ ⟨_, _, rfl, fun v hv => ?_, rfl, w⟩
  · rintro sd S' ⟨vs, e9, hi, hv, rfl, w⟩
    refine ⟨trivial, ?_⟩
    simp only [e_mNext, e_mSeq, e_mExpr, e_mRet, e_mRetN, e_mIfS, e_mBreak, e_mCont, e_mAsg, e_mPar, e_gmName, e_gmNil, e_gmCons, e_gmTup, e_gmSub, e_mVar, e_mC, e_mOp, e_mtB, e_mtT, e_mtNot, e_mtAnd, e_mtOr, e_mAnd, e_mOr, e_mAndT, e_mOrT, e_mIf, e_mNotB, e_mChain, e_maNil, e_maCons, e_mTup, e_mCall, e_mFld, e_mProp, e_mMeth, e_mUnO, e_mBinO, e_mCallO, e_mCMeth, e_mRaise, e_mTry, e_mFn, e_mNeg, e_mIsiB, e_mIsiO, e_mFor, e_miRange1, e_miRange2, e_miRangeW, e_miZip, e_zpT, e_mIsi2, e_miAny, e_seqT, e_powW, e_mAug, e_addI, e_fTupleT, e_mSl00, e_mSl01, e_mSl10, e_mSl11, e_miTup, e_body, e_addII, e_addIB, e_addSS, e_addTT, e_subII, e_mulII, e_fdivII, e_modII, e_powII, e_ltII, e_leII, e_gtII, e_geII, e_is, e_isNot, e_ixT, e_ixS, e_ixD, e_inD, e_fLenS, e_fLenT, e_fMax2, e_fMin2, e_fAbs, e_fIntI, e_fIntB, e_fBoolI, e_fBoolB, e_mExcF, e_tryNil, e_tryCons, e_mBM, e_mEqO, e_mNeO, e_fLenO, e_fBoolO, e_mtTO, e_mInO, e_mNotInO, e_mGetO, e_mSortedSet, e_mLstRg1, e_mDic1, e_mDic0, e_miRange3, e_mtYes, putD, List.getElem?_cons_zero, List.getElem?_cons_succ, List.set_cons_zero, List.set_cons_succ, List.map_cons, List.map_nil, List.length_cons, List.length_nil, List.cons_append, List.nil_append, List.append_nil, List.replicate, Nat.reduceAdd, Nat.reduceSub, Nat.reduceLeDiff, Nat.zero_add, true_and, and_true, reduceIte, Bool.false_eq_true, Bool.true_eq_false, Bool.not_true, Bool.not_false, w_mLst, w_mMake, w_miLst, w_gmUnl, w_mComp, w_mComp2, compL_nil, w_compL, w_mSetF, w_addRR]
    refine ⟨hm, ?_⟩
    refine big_w w fun r S1 r0 r1 w => ?_
    refine ⟨cmul_l (by omega) (by omega), ?_⟩
    exact pr4_w w m7 m6 hp hm l0 l1 p0 (by omega) hq
  · rintro d is sd S' ⟨vs, e9, hi, hv, rfl, w⟩ ih
    cases vs with
    | nil => cases hi
    | cons v vs =>
      rw [List.map_cons] at hi
      obtain ⟨rfl, rfl⟩ := List.cons.inj hi
      have v0 := hv v List.mem_cons_self
      refine ⟨trivial, ?_⟩
      simp only [e_mNext, e_mSeq, e_mExpr, e_mRet, e_mRetN, e_mIfS, e_mBreak, e_mCont, e_mAsg, e_mPar, e_gmName, e_gmNil, e_gmCons, e_gmTup, e_gmSub, e_mVar, e_mC, e_mOp, e_mtB, e_mtT, e_mtNot, e_mtAnd, e_mtOr, e_mAnd, e_mOr, e_mAndT, e_mOrT, e_mIf, e_mNotB, e_mChain, e_maNil, e_maCons, e_mTup, e_mCall, e_mFld, e_mProp, e_mMeth, e_mUnO, e_mBinO, e_mCallO, e_mCMeth, e_mRaise, e_mTry, e_mFn, e_mNeg, e_mIsiB, e_mIsiO, e_mFor, e_miRange1, e_miRange2, e_miRangeW, e_miZip, e_zpT, e_mIsi2, e_miAny, e_seqT, e_powW, e_mAug, e_addI, e_fTupleT, e_mSl00, e_mSl01, e_mSl10, e_mSl11, e_miTup, e_body, e_addII, e_addIB, e_addSS, e_addTT, e_subII, e_mulII, e_fdivII, e_modII, e_powII, e_ltII, e_leII, e_gtII, e_geII, e_is, e_isNot, e_ixT, e_ixS, e_ixD, e_inD, e_fLenS, e_fLenT, e_fMax2, e_fMin2, e_fAbs, e_fIntI, e_fIntB, e_fBoolI, e_fBoolB, e_mExcF, e_tryNil, e_tryCons, e_mBM, e_mEqO, e_mNeO, e_fLenO, e_fBoolO, e_mtTO, e_mInO, e_mNotInO, e_mGetO, e_mSortedSet, e_mLstRg1, e_mDic1, e_mDic0, e_miRange3, e_mtYes, putD, List.getElem?_cons_zero, List.getElem?_cons_succ, List.set_cons_zero, List.set_cons_succ, List.map_cons, List.map_nil, List.length_cons, List.length_nil, List.cons_append, List.nil_append, List.append_nil, List.replicate, Nat.reduceAdd, Nat.reduceSub, Nat.reduceLeDiff, Nat.zero_add, true_and, and_true, reduceIte, Bool.false_eq_true, Bool.true_eq_false, Bool.not_true, Bool.not_false, w_mLst, w_mMake, w_miLst, w_gmUnl, w_mComp, w_mComp2, compL_nil, w_compL, w_mSetF, w_addRR]
      refine ins_ok w m7 ?_
      refine contains_w w m7 cc.q0 ?_
      try simp only [e_mNext, e_mSeq, e_mExpr, e_mRet, e_mRetN, e_mIfS, e_mBreak, e_mCont, e_mAsg, e_mPar, e_gmName, e_gmNil, e_gmCons, e_gmTup, e_gmSub, e_mVar, e_mC, e_mOp, e_mtB, e_mtT, e_mtNot, e_mtAnd, e_mtOr, e_mAnd, e_mOr, e_mAndT, e_mOrT, e_mIf, e_mNotB, e_mChain, e_maNil, e_maCons, e_mTup, e_mCall, e_mFld, e_mProp, e_mMeth, e_mUnO, e_mBinO, e_mCallO, e_mCMeth, e_mRaise, e_mTry, e_mFn, e_mNeg, e_mIsiB, e_mIsiO, e_mFor, e_miRange1, e_miRange2, e_miRangeW, e_miZip, e_zpT, e_mIsi2, e_miAny, e_seqT, e_powW, e_mAug, e_addI, e_fTupleT, e_mSl00, e_mSl01, e_mSl10, e_mSl11, e_miTup, e_body, e_addII, e_addIB, e_addSS, e_addTT, e_subII, e_mulII, e_fdivII, e_modII, e_powII, e_ltII, e_leII, e_gtII, e_geII, e_is, e_isNot, e_ixT, e_ixS, e_ixD, e_inD, e_fLenS, e_fLenT, e_fMax2, e_fMin2, e_fAbs, e_fIntI, e_fIntB, e_fBoolI, e_fBoolB, e_mExcF, e_tryNil, e_tryCons, e_mBM, e_mEqO, e_mNeO, e_fLenO, e_fBoolO, e_mtTO, e_mInO, e_mNotInO, e_mGetO, e_mSortedSet, e_mLstRg1, e_mDic1, e_mDic0, e_miRange3, e_mtYes, putD, List.getElem?_cons_zero, List.getElem?_cons_succ, List.set_cons_zero, List.set_cons_succ, List.map_cons, List.map_nil, List.length_cons, List.length_nil, List.cons_append, List.nil_append, List.append_nil, List.replicate, Nat.reduceAdd, Nat.reduceSub, Nat.reduceLeDiff, Nat.zero_add, true_and, and_true, reduceIte, Bool.false_eq_true, Bool.true_eq_false, Bool.not_true, Bool.not_false, w_mLst, w_mMake, w_miLst, w_gmUnl, w_mComp, w_mComp2, compL_nil, w_compL, w_mSetF, w_addRR]
      refine ⟨hm, P0, ?_⟩
      rw [in_lstI (w.get m6), decide_eq_true v0, Bool.true_and]
      have e : decide (v % p ∈ gs) = decide (v % (l * pts) ∈ fs) := by simp only [hs v]
      rw [e, mNe_bl, beq_self_eq_true]
      simp only [e_mNext, e_mSeq, e_mExpr, e_mRet, e_mRetN, e_mIfS, e_mBreak, e_mCont, e_mAsg, e_mPar, e_gmName, e_gmNil, e_gmCons, e_gmTup, e_gmSub, e_mVar, e_mC, e_mOp, e_mtB, e_mtT, e_mtNot, e_mtAnd, e_mtOr, e_mAnd, e_mOr, e_mAndT, e_mOrT, e_mIf, e_mNotB, e_mChain, e_maNil, e_maCons, e_mTup, e_mCall, e_mFld, e_mProp, e_mMeth, e_mUnO, e_mBinO, e_mCallO, e_mCMeth, e_mRaise, e_mTry, e_mFn, e_mNeg, e_mIsiB, e_mIsiO, e_mFor, e_miRange1, e_miRange2, e_miRangeW, e_miZip, e_zpT, e_mIsi2, e_miAny, e_seqT, e_powW, e_mAug, e_addI, e_fTupleT, e_mSl00, e_mSl01, e_mSl10, e_mSl11, e_miTup, e_body, e_addII, e_addIB, e_addSS, e_addTT, e_subII, e_mulII, e_fdivII, e_modII, e_powII, e_ltII, e_leII, e_gtII, e_geII, e_is, e_isNot, e_ixT, e_ixS, e_ixD, e_inD, e_fLenS, e_fLenT, e_fMax2, e_fMin2, e_fAbs, e_fIntI, e_fIntB, e_fBoolI, e_fBoolB, e_mExcF, e_tryNil, e_tryCons, e_mBM, e_mEqO, e_mNeO, e_fLenO, e_fBoolO, e_mtTO, e_mInO, e_mNotInO, e_mGetO, e_mSortedSet, e_mLstRg1, e_mDic1, e_mDic0, e_miRange3, e_mtYes, putD, List.getElem?_cons_zero, List.getElem?_cons_succ, List.set_cons_zero, List.set_cons_succ, List.map_cons, List.map_nil, List.length_cons, List.length_nil, List.cons_append, List.nil_append, List.append_nil, List.replicate, Nat.reduceAdd, Nat.reduceSub, Nat.reduceLeDiff, Nat.zero_add, true_and, and_true, reduceIte, Bool.false_eq_true, Bool.true_eq_false, Bool.not_true, Bool.not_false, w_mLst, w_mMake, w_miLst, w_gmUnl, w_mComp, w_mComp2, compL_nil, w_compL, w_mSetF, w_addRR]
      exact ih _ _ ⟨vs, _, rfl, fun u hu => hv u (List.mem_cons_of_mem _ hu), rfl, w⟩
  · obtain ⟨a, ha, rfl⟩ := List.mem_map.mp hv
    omega
end
end Lw

namespace Lw
open PySem PySem.Spec PyProof.Rows L2

theorem Pd.filt {fs gs : List Int} {P q : Int} (h : Pd fs P gs q) : (fs.filter fun f => decide (q = 0) || decide (f < q)) = gs := by
  rcases h.mks with ⟨rfl, rfl, rfl⟩ | ⟨_, e, _⟩ | ⟨hn, _, k, _, r, _, rfl, rfl⟩
  · rfl
  · have := h.P0; omega
  · have e := Int.mul_ediv_add_emod P k
    rw [r.kp] at e
    have q0 : ¬ P / (k : Int) = 0 := fun z => by
      rw [z] at e
      have := h.P0
      simp at e
      omega
    simp [q0]
section
variable {n : Nat} {B : Sto} {L L' : List (Nat × O)} {S S0 S' : Sto} {j j2 j3 i i6 i4 f : Nat} {o : O} {ds xs : List D} {d : D} {q : QD} {x : QX} {t p per k v a pc lim most P r l pts : Int} {K : QD} {md : MEnds} {fs gs hs fl cs few : List Int} {c0 c1 c2 c3 c4 c5 c6 c7 c8 c9 c10 : Option D}
theorem list_w2 (w : W n B L S) (h : (j, .lst ds) ∈ L) (hq : ∀ k S', k ≠ j → B.length ≤ k → W n B ((k, .lst ds) :: L) S' → q (.ref k) S') : fList [.ref j] S q := by
  unfold fList seqO
  simp only [w.get h]
  exact hq _ _ (by have := w.lt h; omega) w.fr.len (w.new rfl rfl)
theorem addR_ok2 {xs : List D} (w : W n B L S) (m1 : (j, .lst ds) ∈ L) (m2 : (i, .lst xs) ∈ L) (hl : ds.length + xs.length ≤ 900) (h : ∀ k S', B.length ≤ k → W n B ((k, .lst (ds ++ xs)) :: L) S' → q (.ref k) S') : addD j i S q := by
  unfold addD lstO
  simp only [w.get m1, w.get m2]
  exact ⟨Nat.le_trans hl (sl_pos (by decide)), fun k S2 e1 e2 => h k S2 (by rw [e1]; exact w.fr.len) (w.new e1 e2)⟩
theorem pr7_w (w : W n B L S) (m7 : (j, mom gs p) ∈ L) (m6 : (i6, .lst (fs.map D.int)) ∈ L) (hp : Pd fs (l * pts) gs p) (l0 : 0 < l) (l1 : l ≤ 12) (p0 : 0 < pts) (p1 : pts ≤ 4)
    (hq : ∀ S', W n B L S' → md.rt (.bl true) S') : b__law_periodic_right_8 md [some (.ref n), some (.int l), some (.int pts), c3, c4, c5, some (.ref i6), some (.ref j), c8, c9, c10] S := by
  rw [e_b__law_periodic_right_8]
  simp only [e_mNext, e_mSeq, e_mExpr, e_mRet, e_mRetN, e_mIfS, e_mBreak, e_mCont, e_mAsg, e_mPar, e_gmName, e_gmNil, e_gmCons, e_gmTup, e_gmSub, e_mVar, e_mC, e_mOp, e_mtB, e_mtT, e_mtNot, e_mtAnd, e_mtOr, e_mAnd, e_mOr, e_mAndT, e_mOrT, e_mIf, e_mNotB, e_mChain, e_maNil, e_maCons, e_mTup, e_mCall, e_mFld, e_mProp, e_mMeth, e_mUnO, e_mBinO, e_mCallO, e_mCMeth, e_mRaise, e_mTry, e_mFn, e_mNeg, e_mIsiB, e_mIsiO, e_mFor, e_miRange1, e_miRange2, e_miRangeW, e_miZip, e_zpT, e_mIsi2, e_miAny, e_seqT, e_powW, e_mAug, e_addI, e_fTupleT, e_mSl00, e_mSl01, e_mSl10, e_mSl11, e_miTup, e_body, e_addII, e_addIB, e_addSS, e_addTT, e_subII, e_mulII, e_fdivII, e_modII, e_powII, e_ltII, e_leII, e_gtII, e_geII, e_is, e_isNot, e_ixT, e_ixS, e_ixD, e_inD, e_fLenS, e_fLenT, e_fMax2, e_fMin2, e_fAbs, e_fIntI, e_fIntB, e_fBoolI, e_fBoolB, e_mExcF, e_tryNil, e_tryCons, e_mBM, e_mEqO, e_mNeO, e_fLenO, e_fBoolO, e_mtTO, e_mInO, e_mNotInO, e_mGetO, e_mSortedSet, e_mLstRg1, e_mDic1, e_mDic0, e_miRange3, e_mtYes, putD, List.getElem?_cons_zero, List.getElem?_cons_succ, List.set_cons_zero, List.set_cons_succ, List.map_cons, List.map_nil, List.length_cons, List.length_nil, List.cons_append, List.nil_append, List.append_nil, List.replicate, Nat.reduceAdd, Nat.reduceSub, Nat.reduceLeDiff, Nat.zero_add, true_and, and_true, reduceIte, Bool.false_eq_true, Bool.true_eq_false, Bool.not_true, Bool.not_false, w_mLst, w_mMake, w_miLst, w_gmUnl, w_mComp, w_mComp2, compL_nil, w_compL, w_mSetF, w_addRR]
  obtain ⟨cc, hs⟩ := hp.can
  obtain ⟨_, e1, e2, _, _⟩ := hp.ok
  have P0 := hp.P0
  have PB := hp.PB
  have lf := hp.len
  have hm : CMul l pts ∨ CMulW l pts := cmul_l (by omega) (by omega)
  refine ⟨Nat.zero_le _, ?_⟩
  intro i7 S1 e3 e4
  replace w := w.new e3 e4
  refine mNe_lstI (b := []) (w.get (.tail _ m6)) (w.get (List.mem_cons_self ..)) ?_
  replace w := W.sub (L' := L) w fun _ _ m => .tail _ m
  have fin : ∀ S2, W n B L S2 → b__law_periodic_right_7 md [some (.ref n), some (.int l), some (.int pts), c3, c4, c5, some (.ref i6), some (.ref j), some (.int p), c9, c10] S2 := fun S2 w => by
    rw [e_b__law_periodic_right_7]
    simp only [e_mNext, e_mSeq, e_mExpr, e_mRet, e_mRetN, e_mIfS, e_mBreak, e_mCont, e_mAsg, e_mPar, e_gmName, e_gmNil, e_gmCons, e_gmTup, e_gmSub, e_mVar, e_mC, e_mOp, e_mtB, e_mtT, e_mtNot, e_mtAnd, e_mtOr, e_mAnd, e_mOr, e_mAndT, e_mOrT, e_mIf, e_mNotB, e_mChain, e_maNil, e_maCons, e_mTup, e_mCall, e_mFld, e_mProp, e_mMeth, e_mUnO, e_mBinO, e_mCallO, e_mCMeth, e_mRaise, e_mTry, e_mFn, e_mNeg, e_mIsiB, e_mIsiO, e_mFor, e_miRange1, e_miRange2, e_miRangeW, e_miZip, e_zpT, e_mIsi2, e_miAny, e_seqT, e_powW, e_mAug, e_addI, e_fTupleT, e_mSl00, e_mSl01, e_mSl10, e_mSl11, e_miTup, e_body, e_addII, e_addIB, e_addSS, e_addTT, e_subII, e_mulII, e_fdivII, e_modII, e_powII, e_ltII, e_leII, e_gtII, e_geII, e_is, e_isNot, e_ixT, e_ixS, e_ixD, e_inD, e_fLenS, e_fLenT, e_fMax2, e_fMin2, e_fAbs, e_fIntI, e_fIntB, e_fBoolI, e_fBoolB, e_mExcF, e_tryNil, e_tryCons, e_mBM, e_mEqO, e_mNeO, e_fLenO, e_fBoolO, e_mtTO, e_mInO, e_mNotInO, e_mGetO, e_mSortedSet, e_mLstRg1, e_mDic1, e_mDic0, e_miRange3, e_mtYes, putD, List.getElem?_cons_zero, List.getElem?_cons_succ, List.set_cons_zero, List.set_cons_succ, List.map_cons, List.map_nil, List.length_cons, List.length_nil, List.cons_append, List.nil_append, List.append_nil, List.replicate, Nat.reduceAdd, Nat.reduceSub, Nat.reduceLeDiff, Nat.zero_add, true_and, and_true, reduceIte, Bool.false_eq_true, Bool.true_eq_false, Bool.not_true, Bool.not_false, w_mLst, w_mMake, w_miLst, w_gmUnl, w_mComp, w_mComp2, compL_nil, w_compL, w_mSetF, w_addRR]
    refine ins_ok w m7 ?_
    refine period_w w m7 ?_
    try simp only [e_mNext, e_mSeq, e_mExpr, e_mRet, e_mRetN, e_mIfS, e_mBreak, e_mCont, e_mAsg, e_mPar, e_gmName, e_gmNil, e_gmCons, e_gmTup, e_gmSub, e_mVar, e_mC, e_mOp, e_mtB, e_mtT, e_mtNot, e_mtAnd, e_mtOr, e_mAnd, e_mOr, e_mAndT, e_mOrT, e_mIf, e_mNotB, e_mChain, e_maNil, e_maCons, e_mTup, e_mCall, e_mFld, e_mProp, e_mMeth, e_mUnO, e_mBinO, e_mCallO, e_mCMeth, e_mRaise, e_mTry, e_mFn, e_mNeg, e_mIsiB, e_mIsiO, e_mFor, e_miRange1, e_miRange2, e_miRangeW, e_miZip, e_zpT, e_mIsi2, e_miAny, e_seqT, e_powW, e_mAug, e_addI, e_fTupleT, e_mSl00, e_mSl01, e_mSl10, e_mSl11, e_miTup, e_body, e_addII, e_addIB, e_addSS, e_addTT, e_subII, e_mulII, e_fdivII, e_modII, e_powII, e_ltII, e_leII, e_gtII, e_geII, e_is, e_isNot, e_ixT, e_ixS, e_ixD, e_inD, e_fLenS, e_fLenT, e_fMax2, e_fMin2, e_fAbs, e_fIntI, e_fIntB, e_fBoolI, e_fBoolB, e_mExcF, e_tryNil, e_tryCons, e_mBM, e_mEqO, e_mNeO, e_fLenO, e_fBoolO, e_mtTO, e_mInO, e_mNotInO, e_mGetO, e_mSortedSet, e_mLstRg1, e_mDic1, e_mDic0, e_miRange3, e_mtYes, putD, List.getElem?_cons_zero, List.getElem?_cons_succ, List.set_cons_zero, List.set_cons_succ, List.map_cons, List.map_nil, List.length_cons, List.length_nil, List.cons_append, List.nil_append, List.append_nil, List.replicate, Nat.reduceAdd, Nat.reduceSub, Nat.reduceLeDiff, Nat.zero_add, true_and, and_true, reduceIte, Bool.false_eq_true, Bool.true_eq_false, Bool.not_true, Bool.not_false, w_mLst, w_mMake, w_miLst, w_gmUnl, w_mComp, w_mComp2, compL_nil, w_compL, w_mSetF, w_addRR]
    refine ins_ok w m7 ?_
    refine firsts_w w m7 ?_
    try simp only [e_mNext, e_mSeq, e_mExpr, e_mRet, e_mRetN, e_mIfS, e_mBreak, e_mCont, e_mAsg, e_mPar, e_gmName, e_gmNil, e_gmCons, e_gmTup, e_gmSub, e_mVar, e_mC, e_mOp, e_mtB, e_mtT, e_mtNot, e_mtAnd, e_mtOr, e_mAnd, e_mOr, e_mAndT, e_mOrT, e_mIf, e_mNotB, e_mChain, e_maNil, e_maCons, e_mTup, e_mCall, e_mFld, e_mProp, e_mMeth, e_mUnO, e_mBinO, e_mCallO, e_mCMeth, e_mRaise, e_mTry, e_mFn, e_mNeg, e_mIsiB, e_mIsiO, e_mFor, e_miRange1, e_miRange2, e_miRangeW, e_miZip, e_zpT, e_mIsi2, e_miAny, e_seqT, e_powW, e_mAug, e_addI, e_fTupleT, e_mSl00, e_mSl01, e_mSl10, e_mSl11, e_miTup, e_body, e_addII, e_addIB, e_addSS, e_addTT, e_subII, e_mulII, e_fdivII, e_modII, e_powII, e_ltII, e_leII, e_gtII, e_geII, e_is, e_isNot, e_ixT, e_ixS, e_ixD, e_inD, e_fLenS, e_fLenT, e_fMax2, e_fMin2, e_fAbs, e_fIntI, e_fIntB, e_fBoolI, e_fBoolB, e_mExcF, e_tryNil, e_tryCons, e_mBM, e_mEqO, e_mNeO, e_fLenO, e_fBoolO, e_mtTO, e_mInO, e_mNotInO, e_mGetO, e_mSortedSet, e_mLstRg1, e_mDic1, e_mDic0, e_miRange3, e_mtYes, putD, List.getElem?_cons_zero, List.getElem?_cons_succ, List.set_cons_zero, List.set_cons_succ, List.map_cons, List.map_nil, List.length_cons, List.length_nil, List.cons_append, List.nil_append, List.append_nil, List.replicate, Nat.reduceAdd, Nat.reduceSub, Nat.reduceLeDiff, Nat.zero_add, true_and, and_true, reduceIte, Bool.false_eq_true, Bool.true_eq_false, Bool.not_true, Bool.not_false, w_mLst, w_mMake, w_miLst, w_gmUnl, w_mComp, w_mComp2, compL_nil, w_compL, w_mSetF, w_addRR]
    refine ⟨(sl_pos (by simp)), ?_⟩
    intro i8 S3 e5 e6
    replace w := w.new e5 e6
    simp only [wipeD, List.set_cons_succ, List.set_cons_zero]
    refine wlk_ok w (.tail _ m6) ?_
    refine compA D.int (fun v => if (decide (p = 0) || decide (v < p)) = true then some (D.int v) else none) (w.get (.tail _ m6)) fs [] (by simp; omega) (fun v hv acc C hl h => ?_) ?_
    · simp only [e_mNext, e_mSeq, e_mExpr, e_mRet, e_mRetN, e_mIfS, e_mBreak, e_mCont, e_mAsg, e_mPar, e_gmName, e_gmNil, e_gmCons, e_gmTup, e_gmSub, e_mVar, e_mC, e_mOp, e_mtB, e_mtT, e_mtNot, e_mtAnd, e_mtOr, e_mAnd, e_mOr, e_mAndT, e_mOrT, e_mIf, e_mNotB, e_mChain, e_maNil, e_maCons, e_mTup, e_mCall, e_mFld, e_mProp, e_mMeth, e_mUnO, e_mBinO, e_mCallO, e_mCMeth, e_mRaise, e_mTry, e_mFn, e_mNeg, e_mIsiB, e_mIsiO, e_mFor, e_miRange1, e_miRange2, e_miRangeW, e_miZip, e_zpT, e_mIsi2, e_miAny, e_seqT, e_powW, e_mAug, e_addI, e_fTupleT, e_mSl00, e_mSl01, e_mSl10, e_mSl11, e_miTup, e_body, e_addII, e_addIB, e_addSS, e_addTT, e_subII, e_mulII, e_fdivII, e_modII, e_powII, e_ltII, e_leII, e_gtII, e_geII, e_is, e_isNot, e_ixT, e_ixS, e_ixD, e_inD, e_fLenS, e_fLenT, e_fMax2, e_fMin2, e_fAbs, e_fIntI, e_fIntB, e_fBoolI, e_fBoolB, e_mExcF, e_tryNil, e_tryCons, e_mBM, e_mEqO, e_mNeO, e_fLenO, e_fBoolO, e_mtTO, e_mInO, e_mNotInO, e_mGetO, e_mSortedSet, e_mLstRg1, e_mDic1, e_mDic0, e_miRange3, e_mtYes, putD, List.getElem?_cons_zero, List.getElem?_cons_succ, List.set_cons_zero, List.set_cons_succ, List.map_cons, List.map_nil, List.length_cons, List.length_nil, List.cons_append, List.nil_append, List.append_nil, List.replicate, Nat.reduceAdd, Nat.reduceSub, Nat.reduceLeDiff, Nat.zero_add, true_and, and_true, reduceIte, Bool.false_eq_true, Bool.true_eq_false, Bool.not_true, Bool.not_false, w_mLst, w_mMake, w_miLst, w_gmUnl, w_mComp, w_mComp2, compL_nil, w_compL, w_mSetF, w_addRR, mEq_int']
      by_cases h0 : p = 0
      · rw [if_pos (by rw [h0]; rfl)]
        simp only [h0, decide_true, Bool.true_or, reduceIte, Option.toList] at h ⊢
        exact ⟨hl, h⟩
      · rw [if_neg (by simpa using h0)]
        simp only [h0, decide_false, Bool.false_or] at h
        by_cases h1 : v < p
        · simp only [decide_eq_true h1, reduceIte, Option.toList] at h ⊢
          exact ⟨hl, h⟩
        · simp only [decide_eq_false h1, Bool.false_eq_true, reduceIte, Option.toList, List.append_nil] at h ⊢
          exact h
    · rw [List.nil_append, filt_map, hp.filt]
      intro i9 S4 e7 e8
      replace w := w.new e7 e8
      refine tuple_w w (List.mem_cons_self ..) ?_
      try simp only [e_mNext, e_mSeq, e_mExpr, e_mRet, e_mRetN, e_mIfS, e_mBreak, e_mCont, e_mAsg, e_mPar, e_gmName, e_gmNil, e_gmCons, e_gmTup, e_gmSub, e_mVar, e_mC, e_mOp, e_mtB, e_mtT, e_mtNot, e_mtAnd, e_mtOr, e_mAnd, e_mOr, e_mAndT, e_mOrT, e_mIf, e_mNotB, e_mChain, e_maNil, e_maCons, e_mTup, e_mCall, e_mFld, e_mProp, e_mMeth, e_mUnO, e_mBinO, e_mCallO, e_mCMeth, e_mRaise, e_mTry, e_mFn, e_mNeg, e_mIsiB, e_mIsiO, e_mFor, e_miRange1, e_miRange2, e_miRangeW, e_miZip, e_zpT, e_mIsi2, e_miAny, e_seqT, e_powW, e_mAug, e_addI, e_fTupleT, e_mSl00, e_mSl01, e_mSl10, e_mSl11, e_miTup, e_body, e_addII, e_addIB, e_addSS, e_addTT, e_subII, e_mulII, e_fdivII, e_modII, e_powII, e_ltII, e_leII, e_gtII, e_geII, e_is, e_isNot, e_ixT, e_ixS, e_ixD, e_inD, e_fLenS, e_fLenT, e_fMax2, e_fMin2, e_fAbs, e_fIntI, e_fIntB, e_fBoolI, e_fBoolB, e_mExcF, e_tryNil, e_tryCons, e_mBM, e_mEqO, e_mNeO, e_fLenO, e_fBoolO, e_mtTO, e_mInO, e_mNotInO, e_mGetO, e_mSortedSet, e_mLstRg1, e_mDic1, e_mDic0, e_miRange3, e_mtYes, putD, List.getElem?_cons_zero, List.getElem?_cons_succ, List.set_cons_zero, List.set_cons_succ, List.map_cons, List.map_nil, List.length_cons, List.length_nil, List.cons_append, List.nil_append, List.append_nil, List.replicate, Nat.reduceAdd, Nat.reduceSub, Nat.reduceLeDiff, Nat.zero_add, true_and, and_true, reduceIte, Bool.false_eq_true, Bool.true_eq_false, Bool.not_true, Bool.not_false, w_mLst, w_mMake, w_miLst, w_gmUnl, w_mComp, w_mComp2, compL_nil, w_compL, w_mSetF, w_addRR]
      refine ⟨(sl_pos (by simp)), ?_⟩
      intro i10 S5 e9 e10
      replace w := w.new e9 e10
      refine mNe_pf (w.get (.tail _ (.tail _ (List.mem_cons_self ..)))) (w.get (List.mem_cons_self ..)) rfl rfl ?_
      simp only [e_mNext, e_mSeq, e_mExpr, e_mRet, e_mRetN, e_mIfS, e_mBreak, e_mCont, e_mAsg, e_mPar, e_gmName, e_gmNil, e_gmCons, e_gmTup, e_gmSub, e_mVar, e_mC, e_mOp, e_mtB, e_mtT, e_mtNot, e_mtAnd, e_mtOr, e_mAnd, e_mOr, e_mAndT, e_mOrT, e_mIf, e_mNotB, e_mChain, e_maNil, e_maCons, e_mTup, e_mCall, e_mFld, e_mProp, e_mMeth, e_mUnO, e_mBinO, e_mCallO, e_mCMeth, e_mRaise, e_mTry, e_mFn, e_mNeg, e_mIsiB, e_mIsiO, e_mFor, e_miRange1, e_miRange2, e_miRangeW, e_miZip, e_zpT, e_mIsi2, e_miAny, e_seqT, e_powW, e_mAug, e_addI, e_fTupleT, e_mSl00, e_mSl01, e_mSl10, e_mSl11, e_miTup, e_body, e_addII, e_addIB, e_addSS, e_addTT, e_subII, e_mulII, e_fdivII, e_modII, e_powII, e_ltII, e_leII, e_gtII, e_geII, e_is, e_isNot, e_ixT, e_ixS, e_ixD, e_inD, e_fLenS, e_fLenT, e_fMax2, e_fMin2, e_fAbs, e_fIntI, e_fIntB, e_fBoolI, e_fBoolB, e_mExcF, e_tryNil, e_tryCons, e_mBM, e_mEqO, e_mNeO, e_fLenO, e_fBoolO, e_mtTO, e_mInO, e_mNotInO, e_mGetO, e_mSortedSet, e_mLstRg1, e_mDic1, e_mDic0, e_miRange3, e_mtYes, putD, List.getElem?_cons_zero, List.getElem?_cons_succ, List.set_cons_zero, List.set_cons_succ, List.map_cons, List.map_nil, List.length_cons, List.length_nil, List.cons_append, List.nil_append, List.append_nil, List.replicate, Nat.reduceAdd, Nat.reduceSub, Nat.reduceLeDiff, Nat.zero_add, true_and, and_true, reduceIte, Bool.false_eq_true, Bool.true_eq_false, Bool.not_true, Bool.not_false, w_mLst, w_mMake, w_miLst, w_gmUnl, w_mComp, w_mComp2, compL_nil, w_compL, w_mSetF, w_addRR]
      exact pr6_w (w.sub fun _ _ m => .tail _ (.tail _ (.tail _ m))) m7 m6 hp l0 l1 p0 p1 hq
  by_cases h : fs = []
  · simp only [decide_eq_true h, Bool.not_true, e_mNext, e_mSeq, e_mExpr, e_mRet, e_mRetN, e_mIfS, e_mBreak, e_mCont, e_mAsg, e_mPar, e_gmName, e_gmNil, e_gmCons, e_gmTup, e_gmSub, e_mVar, e_mC, e_mOp, e_mtB, e_mtT, e_mtNot, e_mtAnd, e_mtOr, e_mAnd, e_mOr, e_mAndT, e_mOrT, e_mIf, e_mNotB, e_mChain, e_maNil, e_maCons, e_mTup, e_mCall, e_mFld, e_mProp, e_mMeth, e_mUnO, e_mBinO, e_mCallO, e_mCMeth, e_mRaise, e_mTry, e_mFn, e_mNeg, e_mIsiB, e_mIsiO, e_mFor, e_miRange1, e_miRange2, e_miRangeW, e_miZip, e_zpT, e_mIsi2, e_miAny, e_seqT, e_powW, e_mAug, e_addI, e_fTupleT, e_mSl00, e_mSl01, e_mSl10, e_mSl11, e_miTup, e_body, e_addII, e_addIB, e_addSS, e_addTT, e_subII, e_mulII, e_fdivII, e_modII, e_powII, e_ltII, e_leII, e_gtII, e_geII, e_is, e_isNot, e_ixT, e_ixS, e_ixD, e_inD, e_fLenS, e_fLenT, e_fMax2, e_fMin2, e_fAbs, e_fIntI, e_fIntB, e_fBoolI, e_fBoolB, e_mExcF, e_tryNil, e_tryCons, e_mBM, e_mEqO, e_mNeO, e_fLenO, e_fBoolO, e_mtTO, e_mInO, e_mNotInO, e_mGetO, e_mSortedSet, e_mLstRg1, e_mDic1, e_mDic0, e_miRange3, e_mtYes, putD, List.getElem?_cons_zero, List.getElem?_cons_succ, List.set_cons_zero, List.set_cons_succ, List.map_cons, List.map_nil, List.length_cons, List.length_nil, List.cons_append, List.nil_append, List.append_nil, List.replicate, Nat.reduceAdd, Nat.reduceSub, Nat.reduceLeDiff, Nat.zero_add, true_and, and_true, reduceIte, Bool.false_eq_true, Bool.true_eq_false, Bool.not_true, Bool.not_false, w_mLst, w_mMake, w_miLst, w_gmUnl, w_mComp, w_mComp2, compL_nil, w_compL, w_mSetF, w_addRR]
    have := e2.mpr (.inr h)
    rw [← this]
    exact fin _ w
  · simp only [decide_eq_false h, Bool.not_false, reduceIte]
    have pn : 0 < p := by
      have := cc.q0
      by_cases z : p = 0
      · rcases e2.mp z with z | z
        · omega
        · exact absurd z h
      · omega
    refine ⟨hm, ?_⟩
    refine lleast_w w m6 P0 (by omega) (by omega) hp.mok cc hs pn (hp.mks.dvd h P0) fun S2 w => ?_
    exact fin _ w
/-- from the list that was written -/
theorem pr11_w (w : W n S0 ((i4, .lst (fs.map D.int)) :: []) S) (hB : S0.length ≤ i4) (so : fs.Pairwise (· < ·)) (rg : ∀ f ∈ fs, 0 ≤ f ∧ f < l * pts) (len : fs.length ≤ 24) (l0 : 0 < l) (l1 : l ≤ 12) (p0 : 0 < pts) (p1 : pts ≤ 4)
    (hq : ∀ S', W n S0 [] S' → md.rt (.bl true) S') : b__law_periodic_right_11 md [some (.ref n), some (.int l), some (.int pts), c3, some (.ref i4), c5, c6, c7, c8, c9, c10] S := by
  rw [e_b__law_periodic_right_11, e_b__law_periodic_right_10, e_b__law_periodic_right_9]
  simp only [e_mNext, e_mSeq, e_mExpr, e_mRet, e_mRetN, e_mIfS, e_mBreak, e_mCont, e_mAsg, e_mPar, e_gmName, e_gmNil, e_gmCons, e_gmTup, e_gmSub, e_mVar, e_mC, e_mOp, e_mtB, e_mtT, e_mtNot, e_mtAnd, e_mtOr, e_mAnd, e_mOr, e_mAndT, e_mOrT, e_mIf, e_mNotB, e_mChain, e_maNil, e_maCons, e_mTup, e_mCall, e_mFld, e_mProp, e_mMeth, e_mUnO, e_mBinO, e_mCallO, e_mCMeth, e_mRaise, e_mTry, e_mFn, e_mNeg, e_mIsiB, e_mIsiO, e_mFor, e_miRange1, e_miRange2, e_miRangeW, e_miZip, e_zpT, e_mIsi2, e_miAny, e_seqT, e_powW, e_mAug, e_addI, e_fTupleT, e_mSl00, e_mSl01, e_mSl10, e_mSl11, e_miTup, e_body, e_addII, e_addIB, e_addSS, e_addTT, e_subII, e_mulII, e_fdivII, e_modII, e_powII, e_ltII, e_leII, e_gtII, e_geII, e_is, e_isNot, e_ixT, e_ixS, e_ixD, e_inD, e_fLenS, e_fLenT, e_fMax2, e_fMin2, e_fAbs, e_fIntI, e_fIntB, e_fBoolI, e_fBoolB, e_mExcF, e_tryNil, e_tryCons, e_mBM, e_mEqO, e_mNeO, e_fLenO, e_fBoolO, e_mtTO, e_mInO, e_mNotInO, e_mGetO, e_mSortedSet, e_mLstRg1, e_mDic1, e_mDic0, e_miRange3, e_mtYes, putD, List.getElem?_cons_zero, List.getElem?_cons_succ, List.set_cons_zero, List.set_cons_succ, List.map_cons, List.map_nil, List.length_cons, List.length_nil, List.cons_append, List.nil_append, List.append_nil, List.replicate, Nat.reduceAdd, Nat.reduceSub, Nat.reduceLeDiff, Nat.zero_add, true_and, and_true, reduceIte, Bool.false_eq_true, Bool.true_eq_false, Bool.not_true, Bool.not_false, w_mLst, w_mMake, w_miLst, w_gmUnl, w_mComp, w_mComp2, compL_nil, w_compL, w_mSetF, w_addRR]
  have hm : CMul l pts ∨ CMulW l pts := cmul_l (by omega) (by omega)
  have P0 : 0 < l * pts := Int.mul_pos l0 p0
  have PB : l * pts ≤ 12 * 4 := Int.mul_le_mul l1 p1 (by omega) (by decide)
  refine list_w2 w (List.mem_cons_self ..) fun i6 S1 n6 _ w => ?_
  refine ⟨hm, ?_⟩
  intro j S2 ej eS
  subst ej eS
  have j4 := w.lt (.tail _ (List.mem_cons_self ..))
  refine init_w w (.tail _ (List.mem_cons_self ..)) (by omega) (fun f m => (rg f m).1) so (Int.le_of_lt P0) (.inr fun f m => (rg f m).2) fun S3 gs p hk w => ?_
  have pd : Pd fs (l * pts) gs p := ⟨P0, by omega, so, rg, len, hk⟩
  refine ⟨rfl, ?_⟩
  try simp only [e_mNext, e_mSeq, e_mExpr, e_mRet, e_mRetN, e_mIfS, e_mBreak, e_mCont, e_mAsg, e_mPar, e_gmName, e_gmNil, e_gmCons, e_gmTup, e_gmSub, e_mVar, e_mC, e_mOp, e_mtB, e_mtT, e_mtNot, e_mtAnd, e_mtOr, e_mAnd, e_mOr, e_mAndT, e_mOrT, e_mIf, e_mNotB, e_mChain, e_maNil, e_maCons, e_mTup, e_mCall, e_mFld, e_mProp, e_mMeth, e_mUnO, e_mBinO, e_mCallO, e_mCMeth, e_mRaise, e_mTry, e_mFn, e_mNeg, e_mIsiB, e_mIsiO, e_mFor, e_miRange1, e_miRange2, e_miRangeW, e_miZip, e_zpT, e_mIsi2, e_miAny, e_seqT, e_powW, e_mAug, e_addI, e_fTupleT, e_mSl00, e_mSl01, e_mSl10, e_mSl11, e_miTup, e_body, e_addII, e_addIB, e_addSS, e_addTT, e_subII, e_mulII, e_fdivII, e_modII, e_powII, e_ltII, e_leII, e_gtII, e_geII, e_is, e_isNot, e_ixT, e_ixS, e_ixD, e_inD, e_fLenS, e_fLenT, e_fMax2, e_fMin2, e_fAbs, e_fIntI, e_fIntB, e_fBoolI, e_fBoolB, e_mExcF, e_tryNil, e_tryCons, e_mBM, e_mEqO, e_mNeO, e_fLenO, e_fBoolO, e_mtTO, e_mInO, e_mNotInO, e_mGetO, e_mSortedSet, e_mLstRg1, e_mDic1, e_mDic0, e_miRange3, e_mtYes, putD, List.getElem?_cons_zero, List.getElem?_cons_succ, List.set_cons_zero, List.set_cons_succ, List.map_cons, List.map_nil, List.length_cons, List.length_nil, List.cons_append, List.nil_append, List.append_nil, List.replicate, Nat.reduceAdd, Nat.reduceSub, Nat.reduceLeDiff, Nat.zero_add, true_and, and_true, reduceIte, Bool.false_eq_true, Bool.true_eq_false, Bool.not_true, Bool.not_false, w_mLst, w_mMake, w_miLst, w_gmUnl, w_mComp, w_mComp2, compL_nil, w_compL, w_mSetF, w_addRR]
  refine ⟨tyl_ok w (.tail _ (.tail _ (List.mem_cons_self ..))), ⟨by decide, by decide, by decide⟩, ?_⟩
  have w4 : W n S0 [(i4, .lst (fs.map D.int)), (S1.length, mom gs p), (i6, .lst (fs.map D.int))] S3 := w.sub fun i o m => by
    simp only [List.mem_cons, List.not_mem_nil, or_false] at m
    rcases m with e | e | e
    · rw [e]; exact .tail _ (.tail _ (.head _))
    · rw [e]; exact .head _
    · rw [e]; exact .tail _ (.head _)
  refine app_ok w4 hB (fun i u m => ?_) (by rw [List.length_map]; omega) fun S4 w5 => ?_
  · simp only [List.mem_cons, List.not_mem_nil, or_false] at m
    rcases m with e | e
    · cases e; omega
    · cases e; exact n6
  · try simp only [e_mNext, e_mSeq, e_mExpr, e_mRet, e_mRetN, e_mIfS, e_mBreak, e_mCont, e_mAsg, e_mPar, e_gmName, e_gmNil, e_gmCons, e_gmTup, e_gmSub, e_mVar, e_mC, e_mOp, e_mtB, e_mtT, e_mtNot, e_mtAnd, e_mtOr, e_mAnd, e_mOr, e_mAndT, e_mOrT, e_mIf, e_mNotB, e_mChain, e_maNil, e_maCons, e_mTup, e_mCall, e_mFld, e_mProp, e_mMeth, e_mUnO, e_mBinO, e_mCallO, e_mCMeth, e_mRaise, e_mTry, e_mFn, e_mNeg, e_mIsiB, e_mIsiO, e_mFor, e_miRange1, e_miRange2, e_miRangeW, e_miZip, e_zpT, e_mIsi2, e_miAny, e_seqT, e_powW, e_mAug, e_addI, e_fTupleT, e_mSl00, e_mSl01, e_mSl10, e_mSl11, e_miTup, e_body, e_addII, e_addIB, e_addSS, e_addTT, e_subII, e_mulII, e_fdivII, e_modII, e_powII, e_ltII, e_leII, e_gtII, e_geII, e_is, e_isNot, e_ixT, e_ixS, e_ixD, e_inD, e_fLenS, e_fLenT, e_fMax2, e_fMin2, e_fAbs, e_fIntI, e_fIntB, e_fBoolI, e_fBoolB, e_mExcF, e_tryNil, e_tryCons, e_mBM, e_mEqO, e_mNeO, e_fLenO, e_fBoolO, e_mtTO, e_mInO, e_mNotInO, e_mGetO, e_mSortedSet, e_mLstRg1, e_mDic1, e_mDic0, e_miRange3, e_mtYes, putD, List.getElem?_cons_zero, List.getElem?_cons_succ, List.set_cons_zero, List.set_cons_succ, List.map_cons, List.map_nil, List.length_cons, List.length_nil, List.cons_append, List.nil_append, List.append_nil, List.replicate, Nat.reduceAdd, Nat.reduceSub, Nat.reduceLeDiff, Nat.zero_add, true_and, and_true, reduceIte, Bool.false_eq_true, Bool.true_eq_false, Bool.not_true, Bool.not_false, w_mLst, w_mMake, w_miLst, w_gmUnl, w_mComp, w_mComp2, compL_nil, w_compL, w_mSetF, w_addRR]
    exact pr7_w (L := [(S1.length, mom gs p), (i6, .lst (fs.map D.int))]) (w5.sub fun _ _ m => .tail _ m) (.head _) (.tail _ (.head _)) pd l0 l1 p0 p1 fun S' w => hq S' (w.sub fun _ _ m => by cases m)
theorem per_w (wB : W n B L S) (hq : ∀ S', W n B L S' → q (.bl true) S') : u__law_periodic_right [.ref n] S q x := by
  rw [e_u__law_periodic_right, e_b__law_periodic_right, e_b__law_periodic_right_14, e_b__law_periodic_right_13, e_b__law_periodic_right_12]
  simp only [e_mNext, e_mSeq, e_mExpr, e_mRet, e_mRetN, e_mIfS, e_mBreak, e_mCont, e_mAsg, e_mPar, e_gmName, e_gmNil, e_gmCons, e_gmTup, e_gmSub, e_mVar, e_mC, e_mOp, e_mtB, e_mtT, e_mtNot, e_mtAnd, e_mtOr, e_mAnd, e_mOr, e_mAndT, e_mOrT, e_mIf, e_mNotB, e_mChain, e_maNil, e_maCons, e_mTup, e_mCall, e_mFld, e_mProp, e_mMeth, e_mUnO, e_mBinO, e_mCallO, e_mCMeth, e_mRaise, e_mTry, e_mFn, e_mNeg, e_mIsiB, e_mIsiO, e_mFor, e_miRange1, e_miRange2, e_miRangeW, e_miZip, e_zpT, e_mIsi2, e_miAny, e_seqT, e_powW, e_mAug, e_addI, e_fTupleT, e_mSl00, e_mSl01, e_mSl10, e_mSl11, e_miTup, e_body, e_addII, e_addIB, e_addSS, e_addTT, e_subII, e_mulII, e_fdivII, e_modII, e_powII, e_ltII, e_leII, e_gtII, e_geII, e_is, e_isNot, e_ixT, e_ixS, e_ixD, e_inD, e_fLenS, e_fLenT, e_fMax2, e_fMin2, e_fAbs, e_fIntI, e_fIntB, e_fBoolI, e_fBoolB, e_mExcF, e_tryNil, e_tryCons, e_mBM, e_mEqO, e_mNeO, e_fLenO, e_fBoolO, e_mtTO, e_mInO, e_mNotInO, e_mGetO, e_mSortedSet, e_mLstRg1, e_mDic1, e_mDic0, e_miRange3, e_mtYes, putD, List.getElem?_cons_zero, List.getElem?_cons_succ, List.set_cons_zero, List.set_cons_succ, List.map_cons, List.map_nil, List.length_cons, List.length_nil, List.cons_append, List.nil_append, List.append_nil, List.replicate, Nat.reduceAdd, Nat.reduceSub, Nat.reduceLeDiff, Nat.zero_add, true_and, and_true, reduceIte, Bool.false_eq_true, Bool.true_eq_false, Bool.not_true, Bool.not_false, w_mLst, w_mMake, w_miLst, w_gmUnl, w_mComp, w_mComp2, compL_nil, w_compL, w_mSetF, w_addRR]
  have w0 : W n S [] S := wB.base fun _ _ m => by cases m
  refine drw_w w0 (by decide) (by decide) fun l1 S1 l10 l11 w1 => ?_
  try simp only [e_mNext, e_mSeq, e_mExpr, e_mRet, e_mRetN, e_mIfS, e_mBreak, e_mCont, e_mAsg, e_mPar, e_gmName, e_gmNil, e_gmCons, e_gmTup, e_gmSub, e_mVar, e_mC, e_mOp, e_mtB, e_mtT, e_mtNot, e_mtAnd, e_mtOr, e_mAnd, e_mOr, e_mAndT, e_mOrT, e_mIf, e_mNotB, e_mChain, e_maNil, e_maCons, e_mTup, e_mCall, e_mFld, e_mProp, e_mMeth, e_mUnO, e_mBinO, e_mCallO, e_mCMeth, e_mRaise, e_mTry, e_mFn, e_mNeg, e_mIsiB, e_mIsiO, e_mFor, e_miRange1, e_miRange2, e_miRangeW, e_miZip, e_zpT, e_mIsi2, e_miAny, e_seqT, e_powW, e_mAug, e_addI, e_fTupleT, e_mSl00, e_mSl01, e_mSl10, e_mSl11, e_miTup, e_body, e_addII, e_addIB, e_addSS, e_addTT, e_subII, e_mulII, e_fdivII, e_modII, e_powII, e_ltII, e_leII, e_gtII, e_geII, e_is, e_isNot, e_ixT, e_ixS, e_ixD, e_inD, e_fLenS, e_fLenT, e_fMax2, e_fMin2, e_fAbs, e_fIntI, e_fIntB, e_fBoolI, e_fBoolB, e_mExcF, e_tryNil, e_tryCons, e_mBM, e_mEqO, e_mNeO, e_fLenO, e_fBoolO, e_mtTO, e_mInO, e_mNotInO, e_mGetO, e_mSortedSet, e_mLstRg1, e_mDic1, e_mDic0, e_miRange3, e_mtYes, putD, List.getElem?_cons_zero, List.getElem?_cons_succ, List.set_cons_zero, List.set_cons_succ, List.map_cons, List.map_nil, List.length_cons, List.length_nil, List.cons_append, List.nil_append, List.append_nil, List.replicate, Nat.reduceAdd, Nat.reduceSub, Nat.reduceLeDiff, Nat.zero_add, true_and, and_true, reduceIte, Bool.false_eq_true, Bool.true_eq_false, Bool.not_true, Bool.not_false, w_mLst, w_mMake, w_miLst, w_gmUnl, w_mComp, w_mComp2, compL_nil, w_compL, w_mSetF, w_addRR]
  refine drw_w w1 (by decide) (by decide) fun p1 S2 p10 p11 w2 => ?_
  try simp only [e_mNext, e_mSeq, e_mExpr, e_mRet, e_mRetN, e_mIfS, e_mBreak, e_mCont, e_mAsg, e_mPar, e_gmName, e_gmNil, e_gmCons, e_gmTup, e_gmSub, e_mVar, e_mC, e_mOp, e_mtB, e_mtT, e_mtNot, e_mtAnd, e_mtOr, e_mAnd, e_mOr, e_mAndT, e_mOrT, e_mIf, e_mNotB, e_mChain, e_maNil, e_maCons, e_mTup, e_mCall, e_mFld, e_mProp, e_mMeth, e_mUnO, e_mBinO, e_mCallO, e_mCMeth, e_mRaise, e_mTry, e_mFn, e_mNeg, e_mIsiB, e_mIsiO, e_mFor, e_miRange1, e_miRange2, e_miRangeW, e_miZip, e_zpT, e_mIsi2, e_miAny, e_seqT, e_powW, e_mAug, e_addI, e_fTupleT, e_mSl00, e_mSl01, e_mSl10, e_mSl11, e_miTup, e_body, e_addII, e_addIB, e_addSS, e_addTT, e_subII, e_mulII, e_fdivII, e_modII, e_powII, e_ltII, e_leII, e_gtII, e_geII, e_is, e_isNot, e_ixT, e_ixS, e_ixD, e_inD, e_fLenS, e_fLenT, e_fMax2, e_fMin2, e_fAbs, e_fIntI, e_fIntB, e_fBoolI, e_fBoolB, e_mExcF, e_tryNil, e_tryCons, e_mBM, e_mEqO, e_mNeO, e_fLenO, e_fBoolO, e_mtTO, e_mInO, e_mNotInO, e_mGetO, e_mSortedSet, e_mLstRg1, e_mDic1, e_mDic0, e_miRange3, e_mtYes, putD, List.getElem?_cons_zero, List.getElem?_cons_succ, List.set_cons_zero, List.set_cons_succ, List.map_cons, List.map_nil, List.length_cons, List.length_nil, List.cons_append, List.nil_append, List.append_nil, List.replicate, Nat.reduceAdd, Nat.reduceSub, Nat.reduceLeDiff, Nat.zero_add, true_and, and_true, reduceIte, Bool.false_eq_true, Bool.true_eq_false, Bool.not_true, Bool.not_false, w_mLst, w_mMake, w_miLst, w_gmUnl, w_mComp, w_mComp2, compL_nil, w_compL, w_mSetF, w_addRR]
  refine ⟨(sl_pos (by simp)), ?_⟩
  try simp only [e_mNext, e_mSeq, e_mExpr, e_mRet, e_mRetN, e_mIfS, e_mBreak, e_mCont, e_mAsg, e_mPar, e_gmName, e_gmNil, e_gmCons, e_gmTup, e_gmSub, e_mVar, e_mC, e_mOp, e_mtB, e_mtT, e_mtNot, e_mtAnd, e_mtOr, e_mAnd, e_mOr, e_mAndT, e_mOrT, e_mIf, e_mNotB, e_mChain, e_maNil, e_maCons, e_mTup, e_mCall, e_mFld, e_mProp, e_mMeth, e_mUnO, e_mBinO, e_mCallO, e_mCMeth, e_mRaise, e_mTry, e_mFn, e_mNeg, e_mIsiB, e_mIsiO, e_mFor, e_miRange1, e_miRange2, e_miRangeW, e_miZip, e_zpT, e_mIsi2, e_miAny, e_seqT, e_powW, e_mAug, e_addI, e_fTupleT, e_mSl00, e_mSl01, e_mSl10, e_mSl11, e_miTup, e_body, e_addII, e_addIB, e_addSS, e_addTT, e_subII, e_mulII, e_fdivII, e_modII, e_powII, e_ltII, e_leII, e_gtII, e_geII, e_is, e_isNot, e_ixT, e_ixS, e_ixD, e_inD, e_fLenS, e_fLenT, e_fMax2, e_fMin2, e_fAbs, e_fIntI, e_fIntB, e_fBoolI, e_fBoolB, e_mExcF, e_tryNil, e_tryCons, e_mBM, e_mEqO, e_mNeO, e_fLenO, e_fBoolO, e_mtTO, e_mInO, e_mNotInO, e_mGetO, e_mSortedSet, e_mLstRg1, e_mDic1, e_mDic0, e_miRange3, e_mtYes, putD, List.getElem?_cons_zero, List.getElem?_cons_succ, List.set_cons_zero, List.set_cons_succ, List.map_cons, List.map_nil, List.length_cons, List.length_nil, List.cons_append, List.nil_append, List.append_nil, List.replicate, Nat.reduceAdd, Nat.reduceSub, Nat.reduceLeDiff, Nat.zero_add, true_and, and_true, reduceIte, Bool.false_eq_true, Bool.true_eq_false, Bool.not_true, Bool.not_false, w_mLst, w_mMake, w_miLst, w_gmUnl, w_mComp, w_mComp2, compL_nil, w_compL, w_mSetF, w_addRR]
  refine some_w w2 (by omega) (by omega) (by decide) (by decide) fun i3 S3 few so hf len w3 => ?_
  try simp only [e_mNext, e_mSeq, e_mExpr, e_mRet, e_mRetN, e_mIfS, e_mBreak, e_mCont, e_mAsg, e_mPar, e_gmName, e_gmNil, e_gmCons, e_gmTup, e_gmSub, e_mVar, e_mC, e_mOp, e_mtB, e_mtT, e_mtNot, e_mtAnd, e_mtOr, e_mAnd, e_mOr, e_mAndT, e_mOrT, e_mIf, e_mNotB, e_mChain, e_maNil, e_maCons, e_mTup, e_mCall, e_mFld, e_mProp, e_mMeth, e_mUnO, e_mBinO, e_mCallO, e_mCMeth, e_mRaise, e_mTry, e_mFn, e_mNeg, e_mIsiB, e_mIsiO, e_mFor, e_miRange1, e_miRange2, e_miRangeW, e_miZip, e_zpT, e_mIsi2, e_miAny, e_seqT, e_powW, e_mAug, e_addI, e_fTupleT, e_mSl00, e_mSl01, e_mSl10, e_mSl11, e_miTup, e_body, e_addII, e_addIB, e_addSS, e_addTT, e_subII, e_mulII, e_fdivII, e_modII, e_powII, e_ltII, e_leII, e_gtII, e_geII, e_is, e_isNot, e_ixT, e_ixS, e_ixD, e_inD, e_fLenS, e_fLenT, e_fMax2, e_fMin2, e_fAbs, e_fIntI, e_fIntB, e_fBoolI, e_fBoolB, e_mExcF, e_tryNil, e_tryCons, e_mBM, e_mEqO, e_mNeO, e_fLenO, e_fBoolO, e_mtTO, e_mInO, e_mNotInO, e_mGetO, e_mSortedSet, e_mLstRg1, e_mDic1, e_mDic0, e_miRange3, e_mtYes, putD, List.getElem?_cons_zero, List.getElem?_cons_succ, List.set_cons_zero, List.set_cons_succ, List.map_cons, List.map_nil, List.length_cons, List.length_nil, List.cons_append, List.nil_append, List.append_nil, List.replicate, Nat.reduceAdd, Nat.reduceSub, Nat.reduceLeDiff, Nat.zero_add, true_and, and_true, reduceIte, Bool.false_eq_true, Bool.true_eq_false, Bool.not_true, Bool.not_false, w_mLst, w_mMake, w_miLst, w_gmUnl, w_mComp, w_mComp2, compL_nil, w_compL, w_mSetF, w_addRR]
  refine list_w2 w3 (List.mem_cons_self ..) fun i4 S4 n4 b4 w4 => ?_
  try simp only [e_mNext, e_mSeq, e_mExpr, e_mRet, e_mRetN, e_mIfS, e_mBreak, e_mCont, e_mAsg, e_mPar, e_gmName, e_gmNil, e_gmCons, e_gmTup, e_gmSub, e_mVar, e_mC, e_mOp, e_mtB, e_mtT, e_mtNot, e_mtAnd, e_mtOr, e_mAnd, e_mOr, e_mAndT, e_mOrT, e_mIf, e_mNotB, e_mChain, e_maNil, e_maCons, e_mTup, e_mCall, e_mFld, e_mProp, e_mMeth, e_mUnO, e_mBinO, e_mCallO, e_mCMeth, e_mRaise, e_mTry, e_mFn, e_mNeg, e_mIsiB, e_mIsiO, e_mFor, e_miRange1, e_miRange2, e_miRangeW, e_miZip, e_zpT, e_mIsi2, e_miAny, e_seqT, e_powW, e_mAug, e_addI, e_fTupleT, e_mSl00, e_mSl01, e_mSl10, e_mSl11, e_miTup, e_body, e_addII, e_addIB, e_addSS, e_addTT, e_subII, e_mulII, e_fdivII, e_modII, e_powII, e_ltII, e_leII, e_gtII, e_geII, e_is, e_isNot, e_ixT, e_ixS, e_ixD, e_inD, e_fLenS, e_fLenT, e_fMax2, e_fMin2, e_fAbs, e_fIntI, e_fIntB, e_fBoolI, e_fBoolB, e_mExcF, e_tryNil, e_tryCons, e_mBM, e_mEqO, e_mNeO, e_fLenO, e_fBoolO, e_mtTO, e_mInO, e_mNotInO, e_mGetO, e_mSortedSet, e_mLstRg1, e_mDic1, e_mDic0, e_miRange3, e_mtYes, putD, List.getElem?_cons_zero, List.getElem?_cons_succ, List.set_cons_zero, List.set_cons_succ, List.map_cons, List.map_nil, List.length_cons, List.length_nil, List.cons_append, List.nil_append, List.append_nil, List.replicate, Nat.reduceAdd, Nat.reduceSub, Nat.reduceLeDiff, Nat.zero_add, true_and, and_true, reduceIte, Bool.false_eq_true, Bool.true_eq_false, Bool.not_true, Bool.not_false, w_mLst, w_mMake, w_miLst, w_gmUnl, w_mComp, w_mComp2, compL_nil, w_compL, w_mSetF, w_addRR]
  refine ⟨⟨by decide, by decide, by omega, by omega⟩, ?_⟩
  rw [e_b__law_periodic_right_1]
  refine forL_ind (fun items sd S' => ∃ (k c : Nat) (i4 : Nat) (e5 : Option D), items = rangeD (c : Int) k ∧ 1 ≤ c ∧ (c : Int) + k = 1 + p1 ∧ sd = [some (.ref n), some (.int (1 + l1)), some (.int (1 + p1)), some (.ref i3), some (.ref i4), e5, none, none, none, none, none] ∧ S.length ≤ i4 ∧ W n S [(i4, .lst ((blk few (1 + l1) c).map D.int)), (i3, .lst (few.map D.int))] S') ?_ ?_ _ _ _ ⟨(1 + p1 - 1).toNat, 1, i4, none, rfl, Nat.le_refl _, by omega, rfl, b4, by rw [blk_one]; exact w4⟩
  · rintro sd S' ⟨k, c, i4, e5, hi, c1, ck, rfl, b4, w⟩
    have k0 : k = 0 := by
      cases k with
      | zero => rfl
      | succ k => unfold rangeD at hi; cases hi
    subst k0
    have ec : (c : Int) = 1 + p1 := by simpa using ck
    obtain ⟨so', rg'⟩ := blk_ok (few := few) (l := 1 + l1) (by omega) so hf c
    refine ⟨trivial, ?_⟩
    refine pr11_w (fs := blk few (1 + l1) c) (w.sub fun i o m => ?_) b4 so' (by rw [← ec]; exact rg') ?_ (by omega) (by omega) (by omega) (by omega) fun S2 w2 => ?_
    · have e : (i, o) = (i4, .lst ((blk few (1 + l1) c).map D.int)) := by simpa using m
      rw [e]; exact List.mem_cons_self ..
    · rw [blk_len]
      have : c * few.length ≤ 4 * 6 := Nat.mul_le_mul (by omega) len
      omega
    · exact hq _ (wB.back w2)
  · rintro d is sd S' ⟨k, c, i4, e5, hi, c1, ck, rfl, b4, w⟩ ih
    cases k with
    | zero => unfold rangeD at hi; cases hi
    | succ k =>
      unfold rangeD at hi
      obtain ⟨rfl, rfl⟩ := List.cons.inj hi
      refine ⟨trivial, ?_⟩
      simp only [e_mNext, e_mSeq, e_mExpr, e_mRet, e_mRetN, e_mIfS, e_mBreak, e_mCont, e_mAsg, e_mPar, e_gmName, e_gmNil, e_gmCons, e_gmTup, e_gmSub, e_mVar, e_mC, e_mOp, e_mtB, e_mtT, e_mtNot, e_mtAnd, e_mtOr, e_mAnd, e_mOr, e_mAndT, e_mOrT, e_mIf, e_mNotB, e_mChain, e_maNil, e_maCons, e_mTup, e_mCall, e_mFld, e_mProp, e_mMeth, e_mUnO, e_mBinO, e_mCallO, e_mCMeth, e_mRaise, e_mTry, e_mFn, e_mNeg, e_mIsiB, e_mIsiO, e_mFor, e_miRange1, e_miRange2, e_miRangeW, e_miZip, e_zpT, e_mIsi2, e_miAny, e_seqT, e_powW, e_mAug, e_addI, e_fTupleT, e_mSl00, e_mSl01, e_mSl10, e_mSl11, e_miTup, e_body, e_addII, e_addIB, e_addSS, e_addTT, e_subII, e_mulII, e_fdivII, e_modII, e_powII, e_ltII, e_leII, e_gtII, e_geII, e_is, e_isNot, e_ixT, e_ixS, e_ixD, e_inD, e_fLenS, e_fLenT, e_fMax2, e_fMin2, e_fAbs, e_fIntI, e_fIntB, e_fBoolI, e_fBoolB, e_mExcF, e_tryNil, e_tryCons, e_mBM, e_mEqO, e_mNeO, e_fLenO, e_fBoolO, e_mtTO, e_mInO, e_mNotInO, e_mGetO, e_mSortedSet, e_mLstRg1, e_mDic1, e_mDic0, e_miRange3, e_mtYes, putD, List.getElem?_cons_zero, List.getElem?_cons_succ, List.set_cons_zero, List.set_cons_succ, List.map_cons, List.map_nil, List.length_cons, List.length_nil, List.cons_append, List.nil_append, List.append_nil, List.replicate, Nat.reduceAdd, Nat.reduceSub, Nat.reduceLeDiff, Nat.zero_add, true_and, and_true, reduceIte, Bool.false_eq_true, Bool.true_eq_false, Bool.not_true, Bool.not_false, w_mLst, w_mMake, w_miLst, w_gmUnl, w_mComp, w_mComp2, compL_nil, w_compL, w_mSetF, w_addRR, wipeD]
      refine wlk_ok w (.tail _ (List.mem_cons_self ..)) ?_
      refine compA D.int (fun v => some (D.int (v + (1 + l1) * (c : Int)))) (w.get (.tail _ (List.mem_cons_self ..))) few [] (by simp; omega) (fun v _ acc C hl h => ?_) ?_
      · simp only [e_mNext, e_mSeq, e_mExpr, e_mRet, e_mRetN, e_mIfS, e_mBreak, e_mCont, e_mAsg, e_mPar, e_gmName, e_gmNil, e_gmCons, e_gmTup, e_gmSub, e_mVar, e_mC, e_mOp, e_mtB, e_mtT, e_mtNot, e_mtAnd, e_mtOr, e_mAnd, e_mOr, e_mAndT, e_mOrT, e_mIf, e_mNotB, e_mChain, e_maNil, e_maCons, e_mTup, e_mCall, e_mFld, e_mProp, e_mMeth, e_mUnO, e_mBinO, e_mCallO, e_mCMeth, e_mRaise, e_mTry, e_mFn, e_mNeg, e_mIsiB, e_mIsiO, e_mFor, e_miRange1, e_miRange2, e_miRangeW, e_miZip, e_zpT, e_mIsi2, e_miAny, e_seqT, e_powW, e_mAug, e_addI, e_fTupleT, e_mSl00, e_mSl01, e_mSl10, e_mSl11, e_miTup, e_body, e_addII, e_addIB, e_addSS, e_addTT, e_subII, e_mulII, e_fdivII, e_modII, e_powII, e_ltII, e_leII, e_gtII, e_geII, e_is, e_isNot, e_ixT, e_ixS, e_ixD, e_inD, e_fLenS, e_fLenT, e_fMax2, e_fMin2, e_fAbs, e_fIntI, e_fIntB, e_fBoolI, e_fBoolB, e_mExcF, e_tryNil, e_tryCons, e_mBM, e_mEqO, e_mNeO, e_fLenO, e_fBoolO, e_mtTO, e_mInO, e_mNotInO, e_mGetO, e_mSortedSet, e_mLstRg1, e_mDic1, e_mDic0, e_miRange3, e_mtYes, putD, List.getElem?_cons_zero, List.getElem?_cons_succ, List.set_cons_zero, List.set_cons_succ, List.map_cons, List.map_nil, List.length_cons, List.length_nil, List.cons_append, List.nil_append, List.append_nil, List.replicate, Nat.reduceAdd, Nat.reduceSub, Nat.reduceLeDiff, Nat.zero_add, true_and, and_true, reduceIte, Bool.false_eq_true, Bool.true_eq_false, Bool.not_true, Bool.not_false, w_mLst, w_mMake, w_miLst, w_gmUnl, w_mComp, w_mComp2, compL_nil, w_compL, w_mSetF, w_addRR]
        exact ⟨cmul_l (by omega) (by omega), hl, h⟩
      · rw [List.nil_append, map_some]
        intro i7 S7 e1 e2
        have w7 := w.new e1 e2
        have lb : (blk few (1 + l1) c).length ≤ 24 := by
          rw [blk_len]
          have : c * few.length ≤ 4 * 6 := Nat.mul_le_mul (by push_cast at ck; omega) len
          omega
        refine addR_ok2 w7 (.tail _ (List.mem_cons_self ..)) (List.mem_cons_self ..) (by rw [List.length_map, List.length_map]; omega) fun i8 S8 b8 w8 => ?_
        try simp only [e_mNext, e_mSeq, e_mExpr, e_mRet, e_mRetN, e_mIfS, e_mBreak, e_mCont, e_mAsg, e_mPar, e_gmName, e_gmNil, e_gmCons, e_gmTup, e_gmSub, e_mVar, e_mC, e_mOp, e_mtB, e_mtT, e_mtNot, e_mtAnd, e_mtOr, e_mAnd, e_mOr, e_mAndT, e_mOrT, e_mIf, e_mNotB, e_mChain, e_maNil, e_maCons, e_mTup, e_mCall, e_mFld, e_mProp, e_mMeth, e_mUnO, e_mBinO, e_mCallO, e_mCMeth, e_mRaise, e_mTry, e_mFn, e_mNeg, e_mIsiB, e_mIsiO, e_mFor, e_miRange1, e_miRange2, e_miRangeW, e_miZip, e_zpT, e_mIsi2, e_miAny, e_seqT, e_powW, e_mAug, e_addI, e_fTupleT, e_mSl00, e_mSl01, e_mSl10, e_mSl11, e_miTup, e_body, e_addII, e_addIB, e_addSS, e_addTT, e_subII, e_mulII, e_fdivII, e_modII, e_powII, e_ltII, e_leII, e_gtII, e_geII, e_is, e_isNot, e_ixT, e_ixS, e_ixD, e_inD, e_fLenS, e_fLenT, e_fMax2, e_fMin2, e_fAbs, e_fIntI, e_fIntB, e_fBoolI, e_fBoolB, e_mExcF, e_tryNil, e_tryCons, e_mBM, e_mEqO, e_mNeO, e_fLenO, e_fBoolO, e_mtTO, e_mInO, e_mNotInO, e_mGetO, e_mSortedSet, e_mLstRg1, e_mDic1, e_mDic0, e_miRange3, e_mtYes, putD, List.getElem?_cons_zero, List.getElem?_cons_succ, List.set_cons_zero, List.set_cons_succ, List.map_cons, List.map_nil, List.length_cons, List.length_nil, List.cons_append, List.nil_append, List.append_nil, List.replicate, Nat.reduceAdd, Nat.reduceSub, Nat.reduceLeDiff, Nat.zero_add, true_and, and_true, reduceIte, Bool.false_eq_true, Bool.true_eq_false, Bool.not_true, Bool.not_false, w_mLst, w_mMake, w_miLst, w_gmUnl, w_mComp, w_mComp2, compL_nil, w_compL, w_mSetF, w_addRR]
        refine ih _ _ ⟨k, c + 1, i8, _, by push_cast; rfl, by omega, by push_cast at ck ⊢; omega, rfl, b8, w8.sub fun i o m => ?_⟩
        simp only [List.mem_cons, List.not_mem_nil, or_false] at m
        rcases m with e | e
        · rw [e, blk_succ, List.map_append, List.map_map]
          exact List.mem_cons_self ..
        · rw [e]; exact .tail _ (.tail _ (.tail _ (.head _)))
end
end Lw

namespace Lw
open PySem PySem.Spec PyProof.Rows L2
theorem int_facts : ∀ i : Fin 2001, PyData.strOk (PyData.shown (.int (i.val : Int))) = true ∧ (PyData.shown (.int (i.val : Int))).length ≤ 13 ∧ PyData.weight (.int (i.val : Int)) ≤ 12 ∧ decide ((i.val : Int).natAbs.log2 < 1920) = true := by decide +kernel
theorem ok_app {a b : Str} (h1 : PyData.strOk a = true) (h2 : PyData.strOk b = true) : PyData.strOk (a ++ b) = true := by
  unfold PyData.strOk at *
  show (a.cps ++ b.cps).all _ = true
  rw [Array.all_append, h1, h2]
  rfl
theorem ok_text : ∀ (ts : List Str) (k : Nat) (acc : Str), PyData.strOk acc = true → (∀ t ∈ ts, PyData.strOk t = true) → PyData.strOk (textFrom k acc ts) = true
  | [], k, acc, h, _ => by
    unfold textFrom
    exact h
  | t :: r, k, acc, h, ht => by
    unfold textFrom
    refine ok_text r (k + 1) _ (ok_app (ok_app h ?_) (ht t List.mem_cons_self)) fun u hu => ht u (List.mem_cons_of_mem _ hu)
    split <;> decide +kernel
theorem shw_range {S : Sto} {i : Nat} (h : S[i]? = some (.lst (rangeD 0 2001))) : ∃ z, Shw S (.ref i) z ∧ z = PyData.shown (.list (((List.range 2001).map fun i : Nat => (0 : Int) + i).map PyData.int)) := by
  generalize hn : ((List.range 2001).map fun i : Nat => (0 : Int) + i) = ns
  have hm : ∀ v ∈ ns, PyData.strOk (PyData.shown (.int v)) = true ∧ (PyData.shown (.int v)).length ≤ 13 ∧ PyData.weight (.int v) ≤ 12 ∧ decide (v.natAbs.log2 < 1920) = true := fun v hv => by
    rw [← hn] at hv
    obtain ⟨a, ha, rfl⟩ := List.mem_map.mp hv
    have ha := List.mem_range.mp ha
    have := int_facts ⟨a, ha⟩
    rw [show (0 : Int) + (a : Int) = (a : Int) from by omega]
    exact this
  have len : ns.length = 2001 := by rw [← hn]; simp
  have a1 : ∀ l : List Int, (∀ v ∈ l, PyData.strOk (PyData.shown (.int v)) = true ∧ (PyData.shown (.int v)).length ≤ 13 ∧ PyData.weight (.int v) ≤ 12 ∧ decide (v.natAbs.log2 < 1920) = true) →
      (∀ t ∈ PyData.shownAll (l.map PyData.int), PyData.strOk t = true) ∧ PyData.intsShortAll 13 (l.map PyData.int) = true ∧ PyData.weightAll (l.map PyData.int) ≤ 13 * l.length ∧ PyData.showableAll (l.map PyData.int) = true ∧ PyData.hasDictAll (l.map PyData.int) = false := fun l => by
    induction l with
    | nil => intro _; simp [PyData.shownAll, PyData.intsShortAll, PyData.weightAll, PyData.showableAll, PyData.hasDictAll]
    | cons v l ih =>
      intro hl
      obtain ⟨i1, i2, i3, i4, i5⟩ := ih fun u hu => hl u (List.mem_cons_of_mem _ hu)
      obtain ⟨b1, b2, b3, b4⟩ := hl v List.mem_cons_self
      refine ⟨fun t ht => ?_, ?_, ?_, ?_, ?_⟩
      · rw [List.map_cons, PyData.shownAll] at ht
        rcases List.mem_cons.mp ht with e | ht
        · rw [e]; exact b1
        · exact i1 t ht
      · rw [List.map_cons, PyData.intsShortAll, PyData.intsShort, i2, decide_eq_true b2]
        rfl
      · rw [List.map_cons, PyData.weightAll, List.length_cons]
        omega
      · rw [List.map_cons, PyData.showableAll, PyData.showable, i4, b4]
        rfl
      · rw [List.map_cons, PyData.hasDictAll, PyData.hasDict, i5]
        rfl
  obtain ⟨s1, s2, s3, s4, s5⟩ := a1 ns hm
  have dep := dep_ints ns
  have lay : PyData.layable0 (.list (ns.map PyData.int)) = true := by
    unfold PyData.layable0
    rw [PyData.canLay0, lay_ints]
    have h1 : PyData.depth (.list (ns.map PyData.int)) ≤ 64 := by
      rw [PyData.depth]; omega
    have h2 : PyData.weight (.list (ns.map PyData.int)) ≤ 2 ^ 20 := by
      rw [PyData.weight]; omega
    simp only [decide_eq_true h1, decide_eq_true h2, Bool.and_self]
  have hl := PyProof.Rows.shown_le13 (d := .list (ns.map PyData.int)) lay (by rw [PyData.intsShort]; exact s2)
  refine ⟨_, ⟨fun {q} hq => ?_, ?_⟩, rfl⟩
  · rw [e_fRepr, tr_lst h, rangeD_map, hn, trL_ints]
    refine ⟨?_, hq⟩
    unfold reprOk
    rw [PyData.showable, PyData.hasDict, s4, s5]
    have h1 : PyData.depth (.list (ns.map PyData.int)) ≤ 64 := by
      rw [PyData.depth]; omega
    have h2 : (PyData.shown (.list (ns.map PyData.int))).length ≤ sizeLine := by rw [sizeLine_eq]; omega
    simp only [decide_eq_true h1, decide_eq_true h2, Bool.and_self, Bool.not_false]
  · show PyData.strOk (listText (PyData.shownAll (ns.map PyData.int))) = true
    unfold listText
    exact ok_app (ok_text _ _ _ (by decide +kernel) s1) (by decide +kernel)
end Lw

namespace Lw
open PySem PySem.Spec PyProof.Rows L2

theorem Mk.fin {fs gs : List Int} {q : Int} (h : Mk fs 0 gs q) : gs = fs ∧ q = 0 := by
  rcases h with ⟨rfl, rfl, h⟩ | ⟨_, _, rfl, h⟩ | ⟨_, h, _⟩
  · exact ⟨rfl, h⟩
  · exact ⟨rfl, h⟩
  · exact absurd h (by decide)
section
variable {n : Nat} {B : Sto} {L L' : List (Nat × O)} {S S0 S' : Sto} {j j2 j3 i i1 i6 i4 f : Nat} {o : O} {ds xs : List D} {d e : D} {q : QD} {x : QX} {t p per k v a pc lim most P r l pts : Int} {K : QD} {md : MEnds} {fs gs hs fl cs few : List Int} {c0 c1 c2 c3 c4 c5 c6 c7 c8 c9 c10 : Option D} {z : Str}
theorem contains_bad (o : Okt S d) (hd : isIntD d = false ∨ ∃ i, d = .int i ∧ i < 0) (hq : q (.bl false) S) : u_Moments_contains [.ref j, d] S q x := by
  rw [e_u_Moments_contains, e_b_Moments_contains]
  simp only [e_mNext, e_mSeq, e_mExpr, e_mRet, e_mRetN, e_mIfS, e_mBreak, e_mCont, e_mAsg, e_mPar, e_gmName, e_gmNil, e_gmCons, e_gmTup, e_gmSub, e_mVar, e_mC, e_mOp, e_mtB, e_mtT, e_mtNot, e_mtAnd, e_mtOr, e_mAnd, e_mOr, e_mAndT, e_mOrT, e_mIf, e_mNotB, e_mChain, e_maNil, e_maCons, e_mTup, e_mCall, e_mFld, e_mProp, e_mMeth, e_mUnO, e_mBinO, e_mCallO, e_mCMeth, e_mRaise, e_mTry, e_mFn, e_mNeg, e_mIsiB, e_mIsiO, e_mFor, e_miRange1, e_miRange2, e_miRangeW, e_miZip, e_zpT, e_mIsi2, e_miAny, e_seqT, e_powW, e_mAug, e_addI, e_fTupleT, e_mSl00, e_mSl01, e_mSl10, e_mSl11, e_miTup, e_body, e_addII, e_addIB, e_addSS, e_addTT, e_subII, e_mulII, e_fdivII, e_modII, e_powII, e_ltII, e_leII, e_gtII, e_geII, e_is, e_isNot, e_ixT, e_ixS, e_ixD, e_inD, e_fLenS, e_fLenT, e_fMax2, e_fMin2, e_fAbs, e_fIntI, e_fIntB, e_fBoolI, e_fBoolB, e_mExcF, e_tryNil, e_tryCons, e_mBM, e_mEqO, e_mNeO, e_fLenO, e_fBoolO, e_mtTO, e_mInO, e_mNotInO, e_mGetO, e_mSortedSet, e_mLstRg1, e_mDic1, e_mDic0, e_miRange3, e_mtYes, putD, List.getElem?_cons_zero, List.getElem?_cons_succ, List.set_cons_zero, List.set_cons_succ, List.map_cons, List.map_nil, List.length_cons, List.length_nil, List.cons_append, List.nil_append, List.append_nil, List.replicate, Nat.reduceAdd, Nat.reduceSub, Nat.reduceLeDiff, Nat.zero_add, true_and, and_true, reduceIte, Bool.false_eq_true, Bool.true_eq_false, Bool.not_true, Bool.not_false, w_mLst, w_mMake, w_miLst, w_gmUnl, w_mComp, w_mComp2, compL_nil, w_compL, w_mSetF, w_addRR]
  refine is_integer_ok o ?_
  cases h : isIntD d with
  | false => simpa using hq
  | true =>
    obtain ⟨i, rfl⟩ := isInt_is h
    have hi : i < 0 := by
      rcases hd with hd | ⟨i', e, hi⟩
      · cases hd
      · cases e; exact hi
    simp only [e_mNext, e_mSeq, e_mExpr, e_mRet, e_mRetN, e_mIfS, e_mBreak, e_mCont, e_mAsg, e_mPar, e_gmName, e_gmNil, e_gmCons, e_gmTup, e_gmSub, e_mVar, e_mC, e_mOp, e_mtB, e_mtT, e_mtNot, e_mtAnd, e_mtOr, e_mAnd, e_mOr, e_mAndT, e_mOrT, e_mIf, e_mNotB, e_mChain, e_maNil, e_maCons, e_mTup, e_mCall, e_mFld, e_mProp, e_mMeth, e_mUnO, e_mBinO, e_mCallO, e_mCMeth, e_mRaise, e_mTry, e_mFn, e_mNeg, e_mIsiB, e_mIsiO, e_mFor, e_miRange1, e_miRange2, e_miRangeW, e_miZip, e_zpT, e_mIsi2, e_miAny, e_seqT, e_powW, e_mAug, e_addI, e_fTupleT, e_mSl00, e_mSl01, e_mSl10, e_mSl11, e_miTup, e_body, e_addII, e_addIB, e_addSS, e_addTT, e_subII, e_mulII, e_fdivII, e_modII, e_powII, e_ltII, e_leII, e_gtII, e_geII, e_is, e_isNot, e_ixT, e_ixS, e_ixD, e_inD, e_fLenS, e_fLenT, e_fMax2, e_fMin2, e_fAbs, e_fIntI, e_fIntB, e_fBoolI, e_fBoolB, e_mExcF, e_tryNil, e_tryCons, e_mBM, e_mEqO, e_mNeO, e_fLenO, e_fBoolO, e_mtTO, e_mInO, e_mNotInO, e_mGetO, e_mSortedSet, e_mLstRg1, e_mDic1, e_mDic0, e_miRange3, e_mtYes, putD, List.getElem?_cons_zero, List.getElem?_cons_succ, List.set_cons_zero, List.set_cons_succ, List.map_cons, List.map_nil, List.length_cons, List.length_nil, List.cons_append, List.nil_append, List.append_nil, List.replicate, Nat.reduceAdd, Nat.reduceSub, Nat.reduceLeDiff, Nat.zero_add, true_and, and_true, reduceIte, Bool.false_eq_true, Bool.true_eq_false, Bool.not_true, Bool.not_false, w_mLst, w_mMake, w_miLst, w_gmUnl, w_mComp, w_mComp2, compL_nil, w_compL, w_mSetF, w_addRR, decide_eq_true hi]
    exact hq
theorem eq_tup (w : W n B L S) (m : (j, mom gs p) ∈ L) (hq : q (.bl false) S) : isIns "Moments" (.ref j) S (fun _ => okE CLS (.tup ds) S ∧ u_Moments_eq [.ref j, .tup ds] S q x) := by
  refine ins_ok w m ⟨trivial, ?_⟩
  rw [e_u_Moments_eq, e_b_Moments_eq]
  simp only [e_mNext, e_mSeq, e_mExpr, e_mRet, e_mRetN, e_mIfS, e_mBreak, e_mCont, e_mAsg, e_mPar, e_gmName, e_gmNil, e_gmCons, e_gmTup, e_gmSub, e_mVar, e_mC, e_mOp, e_mtB, e_mtT, e_mtNot, e_mtAnd, e_mtOr, e_mAnd, e_mOr, e_mAndT, e_mOrT, e_mIf, e_mNotB, e_mChain, e_maNil, e_maCons, e_mTup, e_mCall, e_mFld, e_mProp, e_mMeth, e_mUnO, e_mBinO, e_mCallO, e_mCMeth, e_mRaise, e_mTry, e_mFn, e_mNeg, e_mIsiB, e_mIsiO, e_mFor, e_miRange1, e_miRange2, e_miRangeW, e_miZip, e_zpT, e_mIsi2, e_miAny, e_seqT, e_powW, e_mAug, e_addI, e_fTupleT, e_mSl00, e_mSl01, e_mSl10, e_mSl11, e_miTup, e_body, e_addII, e_addIB, e_addSS, e_addTT, e_subII, e_mulII, e_fdivII, e_modII, e_powII, e_ltII, e_leII, e_gtII, e_geII, e_is, e_isNot, e_ixT, e_ixS, e_ixD, e_inD, e_fLenS, e_fLenT, e_fMax2, e_fMin2, e_fAbs, e_fIntI, e_fIntB, e_fBoolI, e_fBoolB, e_mExcF, e_tryNil, e_tryCons, e_mBM, e_mEqO, e_mNeO, e_fLenO, e_fBoolO, e_mtTO, e_mInO, e_mNotInO, e_mGetO, e_mSortedSet, e_mLstRg1, e_mDic1, e_mDic0, e_miRange3, e_mtYes, putD, List.getElem?_cons_zero, List.getElem?_cons_succ, List.set_cons_zero, List.set_cons_succ, List.map_cons, List.map_nil, List.length_cons, List.length_nil, List.cons_append, List.nil_append, List.append_nil, List.replicate, Nat.reduceAdd, Nat.reduceSub, Nat.reduceLeDiff, Nat.zero_add, true_and, and_true, reduceIte, Bool.false_eq_true, Bool.true_eq_false, Bool.not_true, Bool.not_false, w_mLst, w_mMake, w_miLst, w_gmUnl, w_mComp, w_mComp2, compL_nil, w_compL, w_mSetF, w_addRR, show tyD S (.tup ds) = some (.b "tuple") from rfl]
  exact hq
theorem fin1_w (w : W n B L S) (m1 : (i1, .lst (fs.map D.int)) ∈ L) (m2 : (j, mom fs 0) ∈ L) (hl : fs.length ≤ 60) (h0 : ∀ f ∈ fs, 0 ≤ f ∧ f < 10 ^ 31) (so : fs.Pairwise (· < ·))
    (hq : ∀ S', W n B L S' → md.rt (.bl true) S') : b__law_finite_right_1 md [c0, some (.ref i1), some (.ref j), c3, c4] S := by
  rw [e_b__law_finite_right_1]
  simp only [e_mNext, e_mSeq, e_mExpr, e_mRet, e_mRetN, e_mIfS, e_mBreak, e_mCont, e_mAsg, e_mPar, e_gmName, e_gmNil, e_gmCons, e_gmTup, e_gmSub, e_mVar, e_mC, e_mOp, e_mtB, e_mtT, e_mtNot, e_mtAnd, e_mtOr, e_mAnd, e_mOr, e_mAndT, e_mOrT, e_mIf, e_mNotB, e_mChain, e_maNil, e_maCons, e_mTup, e_mCall, e_mFld, e_mProp, e_mMeth, e_mUnO, e_mBinO, e_mCallO, e_mCMeth, e_mRaise, e_mTry, e_mFn, e_mNeg, e_mIsiB, e_mIsiO, e_mFor, e_miRange1, e_miRange2, e_miRangeW, e_miZip, e_zpT, e_mIsi2, e_miAny, e_seqT, e_powW, e_mAug, e_addI, e_fTupleT, e_mSl00, e_mSl01, e_mSl10, e_mSl11, e_miTup, e_body, e_addII, e_addIB, e_addSS, e_addTT, e_subII, e_mulII, e_fdivII, e_modII, e_powII, e_ltII, e_leII, e_gtII, e_geII, e_is, e_isNot, e_ixT, e_ixS, e_ixD, e_inD, e_fLenS, e_fLenT, e_fMax2, e_fMin2, e_fAbs, e_fIntI, e_fIntB, e_fBoolI, e_fBoolB, e_mExcF, e_tryNil, e_tryCons, e_mBM, e_mEqO, e_mNeO, e_fLenO, e_fBoolO, e_mtTO, e_mInO, e_mNotInO, e_mGetO, e_mSortedSet, e_mLstRg1, e_mDic1, e_mDic0, e_miRange3, e_mtYes, putD, List.getElem?_cons_zero, List.getElem?_cons_succ, List.set_cons_zero, List.set_cons_succ, List.map_cons, List.map_nil, List.length_cons, List.length_nil, List.cons_append, List.nil_append, List.append_nil, List.replicate, Nat.reduceAdd, Nat.reduceSub, Nat.reduceLeDiff, Nat.zero_add, true_and, and_true, reduceIte, Bool.false_eq_true, Bool.true_eq_false, Bool.not_true, Bool.not_false, w_mLst, w_mMake, w_miLst, w_gmUnl, w_mComp, w_mComp2, compL_nil, w_compL, w_mSetF, w_addRR]
  refine tuple_w w m1 ?_
  refine eq_tup w m2 ?_
  simp only [e_mNext, e_mSeq, e_mExpr, e_mRet, e_mRetN, e_mIfS, e_mBreak, e_mCont, e_mAsg, e_mPar, e_gmName, e_gmNil, e_gmCons, e_gmTup, e_gmSub, e_mVar, e_mC, e_mOp, e_mtB, e_mtT, e_mtNot, e_mtAnd, e_mtOr, e_mAnd, e_mOr, e_mAndT, e_mOrT, e_mIf, e_mNotB, e_mChain, e_maNil, e_maCons, e_mTup, e_mCall, e_mFld, e_mProp, e_mMeth, e_mUnO, e_mBinO, e_mCallO, e_mCMeth, e_mRaise, e_mTry, e_mFn, e_mNeg, e_mIsiB, e_mIsiO, e_mFor, e_miRange1, e_miRange2, e_miRangeW, e_miZip, e_zpT, e_mIsi2, e_miAny, e_seqT, e_powW, e_mAug, e_addI, e_fTupleT, e_mSl00, e_mSl01, e_mSl10, e_mSl11, e_miTup, e_body, e_addII, e_addIB, e_addSS, e_addTT, e_subII, e_mulII, e_fdivII, e_modII, e_powII, e_ltII, e_leII, e_gtII, e_geII, e_is, e_isNot, e_ixT, e_ixS, e_ixD, e_inD, e_fLenS, e_fLenT, e_fMax2, e_fMin2, e_fAbs, e_fIntI, e_fIntB, e_fBoolI, e_fBoolB, e_mExcF, e_tryNil, e_tryCons, e_mBM, e_mEqO, e_mNeO, e_fLenO, e_fBoolO, e_mtTO, e_mInO, e_mNotInO, e_mGetO, e_mSortedSet, e_mLstRg1, e_mDic1, e_mDic0, e_miRange3, e_mtYes, putD, List.getElem?_cons_zero, List.getElem?_cons_succ, List.set_cons_zero, List.set_cons_succ, List.map_cons, List.map_nil, List.length_cons, List.length_nil, List.cons_append, List.nil_append, List.append_nil, List.replicate, Nat.reduceAdd, Nat.reduceSub, Nat.reduceLeDiff, Nat.zero_add, true_and, and_true, reduceIte, Bool.false_eq_true, Bool.true_eq_false, Bool.not_true, Bool.not_false, w_mLst, w_mMake, w_miLst, w_gmUnl, w_mComp, w_mComp2, compL_nil, w_compL, w_mSetF, w_addRR]
  intro k S1 ek eS
  subst ek eS
  refine init_w w m1 (by omega) (fun f m => (h0 f m).1) so (Int.le_refl _) (.inl rfl) fun S2 gs p hk w2 => ?_
  obtain ⟨rfl, rfl⟩ := hk.fin
  refine ⟨rfl, ?_⟩
  refine neO_w w2 (.tail _ m2) (List.mem_cons_self ..) ?_
  simp only [decide_true, and_self, Bool.not_true, e_mNext, e_mSeq, e_mExpr, e_mRet, e_mRetN, e_mIfS, e_mBreak, e_mCont, e_mAsg, e_mPar, e_gmName, e_gmNil, e_gmCons, e_gmTup, e_gmSub, e_mVar, e_mC, e_mOp, e_mtB, e_mtT, e_mtNot, e_mtAnd, e_mtOr, e_mAnd, e_mOr, e_mAndT, e_mOrT, e_mIf, e_mNotB, e_mChain, e_maNil, e_maCons, e_mTup, e_mCall, e_mFld, e_mProp, e_mMeth, e_mUnO, e_mBinO, e_mCallO, e_mCMeth, e_mRaise, e_mTry, e_mFn, e_mNeg, e_mIsiB, e_mIsiO, e_mFor, e_miRange1, e_miRange2, e_miRangeW, e_miZip, e_zpT, e_mIsi2, e_miAny, e_seqT, e_powW, e_mAug, e_addI, e_fTupleT, e_mSl00, e_mSl01, e_mSl10, e_mSl11, e_miTup, e_body, e_addII, e_addIB, e_addSS, e_addTT, e_subII, e_mulII, e_fdivII, e_modII, e_powII, e_ltII, e_leII, e_gtII, e_geII, e_is, e_isNot, e_ixT, e_ixS, e_ixD, e_inD, e_fLenS, e_fLenT, e_fMax2, e_fMin2, e_fAbs, e_fIntI, e_fIntB, e_fBoolI, e_fBoolB, e_mExcF, e_tryNil, e_tryCons, e_mBM, e_mEqO, e_mNeO, e_fLenO, e_fBoolO, e_mtTO, e_mInO, e_mNotInO, e_mGetO, e_mSortedSet, e_mLstRg1, e_mDic1, e_mDic0, e_miRange3, e_mtYes, putD, List.getElem?_cons_zero, List.getElem?_cons_succ, List.set_cons_zero, List.set_cons_succ, List.map_cons, List.map_nil, List.length_cons, List.length_nil, List.cons_append, List.nil_append, List.append_nil, List.replicate, Nat.reduceAdd, Nat.reduceSub, Nat.reduceLeDiff, Nat.zero_add, true_and, and_true, reduceIte, Bool.false_eq_true, Bool.true_eq_false, Bool.not_true, Bool.not_false, w_mLst, w_mMake, w_miLst, w_gmUnl, w_mComp, w_mComp2, compL_nil, w_compL, w_mSetF, w_addRR]
  refine ⟨⟨by decide, by decide, by decide⟩, (sl_pos (by simp)), ?_⟩
  intro i3 S3 e1 e2
  replace w := w2.new e1 e2
  refine addR_ok w (.tail _ (.tail _ m1)) (List.mem_cons_self ..) (by simp; omega) fun i4 S4 w => ?_
  have big : (10 : Int) ^ 31 < 10 ^ Int.toNat 40 := by decide
  have el : gs.map D.int ++ [D.int (10 ^ Int.toNat 40)] = (gs ++ [10 ^ Int.toNat 40]).map D.int := by simp
  rw [el] at w
  intro k S5 ek eS
  subst ek eS
  have h1 : ∀ f ∈ gs ++ [10 ^ Int.toNat 40], 0 ≤ f := fun f m => by
    rcases List.mem_append.mp m with m | m
    · exact (h0 f m).1
    · have e : f = 10 ^ Int.toNat 40 := by simpa using m
      omega
  have so2 : (gs ++ [10 ^ Int.toNat 40]).Pairwise (· < ·) := List.pairwise_append.mpr ⟨so, List.pairwise_singleton .., fun f m g mg => by
    have e : g = 10 ^ Int.toNat 40 := by simpa using mg
    have := (h0 f m).2
    omega⟩
  refine init_w w (List.mem_cons_self ..) (by simp; omega) h1 so2 (Int.le_refl _) (.inl rfl) fun S6 gs2 p2 hk2 w3 => ?_
  obtain ⟨rfl, rfl⟩ := hk2.fin
  refine ⟨rfl, ?_⟩
  refine eqO_w w3 (.tail _ (.tail _ (.tail _ (.tail _ m2)))) (List.mem_cons_self ..) ?_
  have ne : ¬ (gs = gs ++ [10 ^ Int.toNat 40] ∧ (0 : Int) = 0) := fun z => by
    have := congrArg List.length z.1
    simp at this
  rw [decide_eq_false ne]
  simp only [e_mNext, e_mSeq, e_mExpr, e_mRet, e_mRetN, e_mIfS, e_mBreak, e_mCont, e_mAsg, e_mPar, e_gmName, e_gmNil, e_gmCons, e_gmTup, e_gmSub, e_mVar, e_mC, e_mOp, e_mtB, e_mtT, e_mtNot, e_mtAnd, e_mtOr, e_mAnd, e_mOr, e_mAndT, e_mOrT, e_mIf, e_mNotB, e_mChain, e_maNil, e_maCons, e_mTup, e_mCall, e_mFld, e_mProp, e_mMeth, e_mUnO, e_mBinO, e_mCallO, e_mCMeth, e_mRaise, e_mTry, e_mFn, e_mNeg, e_mIsiB, e_mIsiO, e_mFor, e_miRange1, e_miRange2, e_miRangeW, e_miZip, e_zpT, e_mIsi2, e_miAny, e_seqT, e_powW, e_mAug, e_addI, e_fTupleT, e_mSl00, e_mSl01, e_mSl10, e_mSl11, e_miTup, e_body, e_addII, e_addIB, e_addSS, e_addTT, e_subII, e_mulII, e_fdivII, e_modII, e_powII, e_ltII, e_leII, e_gtII, e_geII, e_is, e_isNot, e_ixT, e_ixS, e_ixD, e_inD, e_fLenS, e_fLenT, e_fMax2, e_fMin2, e_fAbs, e_fIntI, e_fIntB, e_fBoolI, e_fBoolB, e_mExcF, e_tryNil, e_tryCons, e_mBM, e_mEqO, e_mNeO, e_fLenO, e_fBoolO, e_mtTO, e_mInO, e_mNotInO, e_mGetO, e_mSortedSet, e_mLstRg1, e_mDic1, e_mDic0, e_miRange3, e_mtYes, putD, List.getElem?_cons_zero, List.getElem?_cons_succ, List.set_cons_zero, List.set_cons_succ, List.map_cons, List.map_nil, List.length_cons, List.length_nil, List.cons_append, List.nil_append, List.append_nil, List.replicate, Nat.reduceAdd, Nat.reduceSub, Nat.reduceLeDiff, Nat.zero_add, true_and, and_true, reduceIte, Bool.false_eq_true, Bool.true_eq_false, Bool.not_true, Bool.not_false, w_mLst, w_mMake, w_miLst, w_gmUnl, w_mComp, w_mComp2, compL_nil, w_compL, w_mSetF, w_addRR]
  replace w := W.sub (L' := L) w3 fun _ _ m => .tail _ (.tail _ (.tail _ (.tail _ m)))
  refine ⟨(sl_pos (by simp)), (sl_pos (by simp)), ?_⟩
  intro i5 S7 e3 e4
  replace w := w.new e3 e4
  refine ⟨(sl_pos (by simp)), ?_⟩
  intro i6 S8 e5 e6
  replace w := w.new e5 e6
  refine wlk_ok w (List.mem_cons_self ..) ?_
  simp only [wipeD, List.set_cons_succ, List.set_cons_zero]
  refine compL_ind (fun items acc S' => acc = [] ∧ (∀ d ∈ items, d ∈ [D.non, .str "1", .int (-1), .bl true, .tup [.int 1], .ref i5]) ∧ W n B ((i6, .lst [.non, .str "1", .int (-1), .bl true, .tup [.int 1], .ref i5]) :: (i5, .lst [.int 1]) :: L) S') ?_ ?_ _ _ _ ⟨rfl, fun d h => h, w⟩
  · rintro acc S' ⟨rfl, _, w⟩
    refine ⟨w.get (List.mem_cons_self ..), ?_⟩
    intro i7 S9 e7 e8
    replace w := w.new e7 e8
    refine ⟨Nat.zero_le _, ?_⟩
    intro i8 S10 e9 e10
    replace w := w.new e9 e10
    refine mEq_lstI (a := []) (b := []) (w.get (.tail _ (List.mem_cons_self ..))) (w.get (List.mem_cons_self ..)) ?_
    exact hq _ (w.sub fun _ _ m => .tail _ (.tail _ (.tail _ (.tail _ m))))
  · rintro d is acc S' ⟨rfl, hp, w⟩ ih
    refine ⟨w.get (List.mem_cons_self ..), ?_⟩
    simp only [e_mNext, e_mSeq, e_mExpr, e_mRet, e_mRetN, e_mIfS, e_mBreak, e_mCont, e_mAsg, e_mPar, e_gmName, e_gmNil, e_gmCons, e_gmTup, e_gmSub, e_mVar, e_mC, e_mOp, e_mtB, e_mtT, e_mtNot, e_mtAnd, e_mtOr, e_mAnd, e_mOr, e_mAndT, e_mOrT, e_mIf, e_mNotB, e_mChain, e_maNil, e_maCons, e_mTup, e_mCall, e_mFld, e_mProp, e_mMeth, e_mUnO, e_mBinO, e_mCallO, e_mCMeth, e_mRaise, e_mTry, e_mFn, e_mNeg, e_mIsiB, e_mIsiO, e_mFor, e_miRange1, e_miRange2, e_miRangeW, e_miZip, e_zpT, e_mIsi2, e_miAny, e_seqT, e_powW, e_mAug, e_addI, e_fTupleT, e_mSl00, e_mSl01, e_mSl10, e_mSl11, e_miTup, e_body, e_addII, e_addIB, e_addSS, e_addTT, e_subII, e_mulII, e_fdivII, e_modII, e_powII, e_ltII, e_leII, e_gtII, e_geII, e_is, e_isNot, e_ixT, e_ixS, e_ixD, e_inD, e_fLenS, e_fLenT, e_fMax2, e_fMin2, e_fAbs, e_fIntI, e_fIntB, e_fBoolI, e_fBoolB, e_mExcF, e_tryNil, e_tryCons, e_mBM, e_mEqO, e_mNeO, e_fLenO, e_fBoolO, e_mtTO, e_mInO, e_mNotInO, e_mGetO, e_mSortedSet, e_mLstRg1, e_mDic1, e_mDic0, e_miRange3, e_mtYes, putD, List.getElem?_cons_zero, List.getElem?_cons_succ, List.set_cons_zero, List.set_cons_succ, List.map_cons, List.map_nil, List.length_cons, List.length_nil, List.cons_append, List.nil_append, List.append_nil, List.replicate, Nat.reduceAdd, Nat.reduceSub, Nat.reduceLeDiff, Nat.zero_add, true_and, and_true, reduceIte, Bool.false_eq_true, Bool.true_eq_false, Bool.not_true, Bool.not_false, w_mLst, w_mMake, w_miLst, w_gmUnl, w_mComp, w_mComp2, compL_nil, w_compL, w_mSetF, w_addRR]
    refine ⟨(sl_pos (by simp)), ?_⟩
    intro i7 S9 e7 e8
    have w9 := w.new e7 e8
    intro k S10 ek eS
    subst ek eS
    refine init_w (fs := [0, 1]) w9 (List.mem_cons_self ..) (by simp) (fun f m => by
      have e : f = 0 ∨ f = 1 := by simpa using m
      omega) (by decide) (Int.le_refl _) (.inl rfl) fun S11 gs3 p3 _ w11 => ?_
    refine ⟨rfl, ?_⟩
    refine ins_ok w11 (List.mem_cons_self ..) ?_
    have bad : Okt S11 d ∧ (isIntD d = false ∨ ∃ i, d = .int i ∧ i < 0) := by
      have hd := hp d List.mem_cons_self
      simp only [List.mem_cons, List.not_mem_nil, or_false] at hd
      rcases hd with rfl | rfl | rfl | rfl | rfl | rfl
      · exact ⟨trivial, .inl rfl⟩
      · exact ⟨trivial, .inl rfl⟩
      · exact ⟨trivial, .inr ⟨_, rfl, by decide⟩⟩
      · exact ⟨trivial, .inl rfl⟩
      · exact ⟨trivial, .inl rfl⟩
      · refine ⟨?_, .inl rfl⟩
        have := ty_lst (w11.get (.tail _ (.tail _ (.tail _ (List.mem_cons_self ..)))) : S11[i5]? = some (.lst [.int 1]))
        simp only [Okt, this]
    refine contains_bad bad.1 bad.2 ?_
    simp only [e_mNext, e_mSeq, e_mExpr, e_mRet, e_mRetN, e_mIfS, e_mBreak, e_mCont, e_mAsg, e_mPar, e_gmName, e_gmNil, e_gmCons, e_gmTup, e_gmSub, e_mVar, e_mC, e_mOp, e_mtB, e_mtT, e_mtNot, e_mtAnd, e_mtOr, e_mAnd, e_mOr, e_mAndT, e_mOrT, e_mIf, e_mNotB, e_mChain, e_maNil, e_maCons, e_mTup, e_mCall, e_mFld, e_mProp, e_mMeth, e_mUnO, e_mBinO, e_mCallO, e_mCMeth, e_mRaise, e_mTry, e_mFn, e_mNeg, e_mIsiB, e_mIsiO, e_mFor, e_miRange1, e_miRange2, e_miRangeW, e_miZip, e_zpT, e_mIsi2, e_miAny, e_seqT, e_powW, e_mAug, e_addI, e_fTupleT, e_mSl00, e_mSl01, e_mSl10, e_mSl11, e_miTup, e_body, e_addII, e_addIB, e_addSS, e_addTT, e_subII, e_mulII, e_fdivII, e_modII, e_powII, e_ltII, e_leII, e_gtII, e_geII, e_is, e_isNot, e_ixT, e_ixS, e_ixD, e_inD, e_fLenS, e_fLenT, e_fMax2, e_fMin2, e_fAbs, e_fIntI, e_fIntB, e_fBoolI, e_fBoolB, e_mExcF, e_tryNil, e_tryCons, e_mBM, e_mEqO, e_mNeO, e_fLenO, e_fBoolO, e_mtTO, e_mInO, e_mNotInO, e_mGetO, e_mSortedSet, e_mLstRg1, e_mDic1, e_mDic0, e_miRange3, e_mtYes, putD, List.getElem?_cons_zero, List.getElem?_cons_succ, List.set_cons_zero, List.set_cons_succ, List.map_cons, List.map_nil, List.length_cons, List.length_nil, List.cons_append, List.nil_append, List.append_nil, List.replicate, Nat.reduceAdd, Nat.reduceSub, Nat.reduceLeDiff, Nat.zero_add, true_and, and_true, reduceIte, Bool.false_eq_true, Bool.true_eq_false, Bool.not_true, Bool.not_false, w_mLst, w_mMake, w_miLst, w_gmUnl, w_mComp, w_mComp2, compL_nil, w_compL, w_mSetF, w_addRR]
    exact ih _ _ ⟨rfl, fun d hd => hp d (List.mem_cons_of_mem _ hd), w11.sub fun _ _ m => .tail _ (.tail _ m)⟩
theorem finite_w (w : W n B L S) (hq : ∀ S', W n B L S' → q (.bl true) S') : u__law_finite_right [.ref n] S q x := by
  rw [e_u__law_finite_right, e_b__law_finite_right, e_b__law_finite_right_4, e_b__law_finite_right_3, e_b__law_finite_right_2]
  simp only [e_mNext, e_mSeq, e_mExpr, e_mRet, e_mRetN, e_mIfS, e_mBreak, e_mCont, e_mAsg, e_mPar, e_gmName, e_gmNil, e_gmCons, e_gmTup, e_gmSub, e_mVar, e_mC, e_mOp, e_mtB, e_mtT, e_mtNot, e_mtAnd, e_mtOr, e_mAnd, e_mOr, e_mAndT, e_mOrT, e_mIf, e_mNotB, e_mChain, e_maNil, e_maCons, e_mTup, e_mCall, e_mFld, e_mProp, e_mMeth, e_mUnO, e_mBinO, e_mCallO, e_mCMeth, e_mRaise, e_mTry, e_mFn, e_mNeg, e_mIsiB, e_mIsiO, e_mFor, e_miRange1, e_miRange2, e_miRangeW, e_miZip, e_zpT, e_mIsi2, e_miAny, e_seqT, e_powW, e_mAug, e_addI, e_fTupleT, e_mSl00, e_mSl01, e_mSl10, e_mSl11, e_miTup, e_body, e_addII, e_addIB, e_addSS, e_addTT, e_subII, e_mulII, e_fdivII, e_modII, e_powII, e_ltII, e_leII, e_gtII, e_geII, e_is, e_isNot, e_ixT, e_ixS, e_ixD, e_inD, e_fLenS, e_fLenT, e_fMax2, e_fMin2, e_fAbs, e_fIntI, e_fIntB, e_fBoolI, e_fBoolB, e_mExcF, e_tryNil, e_tryCons, e_mBM, e_mEqO, e_mNeO, e_fLenO, e_fBoolO, e_mtTO, e_mInO, e_mNotInO, e_mGetO, e_mSortedSet, e_mLstRg1, e_mDic1, e_mDic0, e_miRange3, e_mtYes, putD, List.getElem?_cons_zero, List.getElem?_cons_succ, List.set_cons_zero, List.set_cons_succ, List.map_cons, List.map_nil, List.length_cons, List.length_nil, List.cons_append, List.nil_append, List.append_nil, List.replicate, Nat.reduceAdd, Nat.reduceSub, Nat.reduceLeDiff, Nat.zero_add, true_and, and_true, reduceIte, Bool.false_eq_true, Bool.true_eq_false, Bool.not_true, Bool.not_false, w_mLst, w_mMake, w_miLst, w_gmUnl, w_mComp, w_mComp2, compL_nil, w_compL, w_mSetF, w_addRR]
  refine some_w w (by decide) (by decide) (by decide) (by decide) fun i1 S1 as so1 ha la w => ?_
  refine big_w w fun v S2 v0 v1 w => ?_
  try simp only [e_mNext, e_mSeq, e_mExpr, e_mRet, e_mRetN, e_mIfS, e_mBreak, e_mCont, e_mAsg, e_mPar, e_gmName, e_gmNil, e_gmCons, e_gmTup, e_gmSub, e_mVar, e_mC, e_mOp, e_mtB, e_mtT, e_mtNot, e_mtAnd, e_mtOr, e_mAnd, e_mOr, e_mAndT, e_mOrT, e_mIf, e_mNotB, e_mChain, e_maNil, e_maCons, e_mTup, e_mCall, e_mFld, e_mProp, e_mMeth, e_mUnO, e_mBinO, e_mCallO, e_mCMeth, e_mRaise, e_mTry, e_mFn, e_mNeg, e_mIsiB, e_mIsiO, e_mFor, e_miRange1, e_miRange2, e_miRangeW, e_miZip, e_zpT, e_mIsi2, e_miAny, e_seqT, e_powW, e_mAug, e_addI, e_fTupleT, e_mSl00, e_mSl01, e_mSl10, e_mSl11, e_miTup, e_body, e_addII, e_addIB, e_addSS, e_addTT, e_subII, e_mulII, e_fdivII, e_modII, e_powII, e_ltII, e_leII, e_gtII, e_geII, e_is, e_isNot, e_ixT, e_ixS, e_ixD, e_inD, e_fLenS, e_fLenT, e_fMax2, e_fMin2, e_fAbs, e_fIntI, e_fIntB, e_fBoolI, e_fBoolB, e_mExcF, e_tryNil, e_tryCons, e_mBM, e_mEqO, e_mNeO, e_fLenO, e_fBoolO, e_mtTO, e_mInO, e_mNotInO, e_mGetO, e_mSortedSet, e_mLstRg1, e_mDic1, e_mDic0, e_miRange3, e_mtYes, putD, List.getElem?_cons_zero, List.getElem?_cons_succ, List.set_cons_zero, List.set_cons_succ, List.map_cons, List.map_nil, List.length_cons, List.length_nil, List.cons_append, List.nil_append, List.append_nil, List.replicate, Nat.reduceAdd, Nat.reduceSub, Nat.reduceLeDiff, Nat.zero_add, true_and, and_true, reduceIte, Bool.false_eq_true, Bool.true_eq_false, Bool.not_true, Bool.not_false, w_mLst, w_mMake, w_miLst, w_gmUnl, w_mComp, w_mComp2, compL_nil, w_compL, w_mSetF, w_addRR]
  refine ⟨(sl_pos (by simp)), ?_⟩
  intro i2 S3 e1 e2
  replace w := w.new e1 e2
  refine drw_w w (by decide) (by decide) fun dd S4 d0 d1 w => ?_
  try simp only [e_mNext, e_mSeq, e_mExpr, e_mRet, e_mRetN, e_mIfS, e_mBreak, e_mCont, e_mAsg, e_mPar, e_gmName, e_gmNil, e_gmCons, e_gmTup, e_gmSub, e_mVar, e_mC, e_mOp, e_mtB, e_mtT, e_mtNot, e_mtAnd, e_mtOr, e_mAnd, e_mOr, e_mAndT, e_mOrT, e_mIf, e_mNotB, e_mChain, e_maNil, e_maCons, e_mTup, e_mCall, e_mFld, e_mProp, e_mMeth, e_mUnO, e_mBinO, e_mCallO, e_mCMeth, e_mRaise, e_mTry, e_mFn, e_mNeg, e_mIsiB, e_mIsiO, e_mFor, e_miRange1, e_miRange2, e_miRangeW, e_miZip, e_zpT, e_mIsi2, e_miAny, e_seqT, e_powW, e_mAug, e_addI, e_fTupleT, e_mSl00, e_mSl01, e_mSl10, e_mSl11, e_miTup, e_body, e_addII, e_addIB, e_addSS, e_addTT, e_subII, e_mulII, e_fdivII, e_modII, e_powII, e_ltII, e_leII, e_gtII, e_geII, e_is, e_isNot, e_ixT, e_ixS, e_ixD, e_inD, e_fLenS, e_fLenT, e_fMax2, e_fMin2, e_fAbs, e_fIntI, e_fIntB, e_fBoolI, e_fBoolB, e_mExcF, e_tryNil, e_tryCons, e_mBM, e_mEqO, e_mNeO, e_fLenO, e_fBoolO, e_mtTO, e_mInO, e_mNotInO, e_mGetO, e_mSortedSet, e_mLstRg1, e_mDic1, e_mDic0, e_miRange3, e_mtYes, putD, List.getElem?_cons_zero, List.getElem?_cons_succ, List.set_cons_zero, List.set_cons_succ, List.map_cons, List.map_nil, List.length_cons, List.length_nil, List.cons_append, List.nil_append, List.append_nil, List.replicate, Nat.reduceAdd, Nat.reduceSub, Nat.reduceLeDiff, Nat.zero_add, true_and, and_true, reduceIte, Bool.false_eq_true, Bool.true_eq_false, Bool.not_true, Bool.not_false, w_mLst, w_mMake, w_miLst, w_gmUnl, w_mComp, w_mComp2, compL_nil, w_compL, w_mSetF, w_addRR]
  refine slL_w w (List.mem_cons_self ..) fun i3 S5 w => ?_
  obtain ⟨bs, eb, hb, lb⟩ : ∃ bs : List Int, cutD [D.int v] none (some dd) = bs.map D.int ∧ (∀ b ∈ bs, b = v) ∧ bs.length ≤ 1 := by
    refine ⟨[v].take dd.toNat, ?_, fun b m => by simpa using List.mem_of_mem_take m, by simp; omega⟩
    rw [show dd = ((dd.toNat : Nat) : Int) from by omega, cutTo, List.map_take]
    rfl
  rw [eb] at w
  try simp only [e_mNext, e_mSeq, e_mExpr, e_mRet, e_mRetN, e_mIfS, e_mBreak, e_mCont, e_mAsg, e_mPar, e_gmName, e_gmNil, e_gmCons, e_gmTup, e_gmSub, e_mVar, e_mC, e_mOp, e_mtB, e_mtT, e_mtNot, e_mtAnd, e_mtOr, e_mAnd, e_mOr, e_mAndT, e_mOrT, e_mIf, e_mNotB, e_mChain, e_maNil, e_maCons, e_mTup, e_mCall, e_mFld, e_mProp, e_mMeth, e_mUnO, e_mBinO, e_mCallO, e_mCMeth, e_mRaise, e_mTry, e_mFn, e_mNeg, e_mIsiB, e_mIsiO, e_mFor, e_miRange1, e_miRange2, e_miRangeW, e_miZip, e_zpT, e_mIsi2, e_miAny, e_seqT, e_powW, e_mAug, e_addI, e_fTupleT, e_mSl00, e_mSl01, e_mSl10, e_mSl11, e_miTup, e_body, e_addII, e_addIB, e_addSS, e_addTT, e_subII, e_mulII, e_fdivII, e_modII, e_powII, e_ltII, e_leII, e_gtII, e_geII, e_is, e_isNot, e_ixT, e_ixS, e_ixD, e_inD, e_fLenS, e_fLenT, e_fMax2, e_fMin2, e_fAbs, e_fIntI, e_fIntB, e_fBoolI, e_fBoolB, e_mExcF, e_tryNil, e_tryCons, e_mBM, e_mEqO, e_mNeO, e_fLenO, e_fBoolO, e_mtTO, e_mInO, e_mNotInO, e_mGetO, e_mSortedSet, e_mLstRg1, e_mDic1, e_mDic0, e_miRange3, e_mtYes, putD, List.getElem?_cons_zero, List.getElem?_cons_succ, List.set_cons_zero, List.set_cons_succ, List.map_cons, List.map_nil, List.length_cons, List.length_nil, List.cons_append, List.nil_append, List.append_nil, List.replicate, Nat.reduceAdd, Nat.reduceSub, Nat.reduceLeDiff, Nat.zero_add, true_and, and_true, reduceIte, Bool.false_eq_true, Bool.true_eq_false, Bool.not_true, Bool.not_false, w_mLst, w_mMake, w_miLst, w_gmUnl, w_mComp, w_mComp2, compL_nil, w_compL, w_mSetF, w_addRR]
  refine addR_ok w (.tail _ (.tail _ (List.mem_cons_self ..))) (List.mem_cons_self ..) (by simp; omega) fun i4 S6 w => ?_
  rw [← List.map_append] at w
  refine srt_w w (List.mem_cons_self ..) (by simp; omega) fun i5 S7 fs so hm w => ?_
  replace w := W.sub (L' := (i5, .lst (fs.map D.int)) :: L) w fun i o m => by
    rcases List.mem_cons.mp m with e | m
    · rw [e]; exact List.mem_cons_self ..
    · exact .tail _ (.tail _ (.tail _ (.tail _ (.tail _ m))))
  have h0 : ∀ f ∈ fs, 0 ≤ f ∧ f < 10 ^ 31 := fun f m => by
    rcases List.mem_append.mp ((hm f).mp m) with m | m
    · have := ha f m
      have b : (30 : Int) < 10 ^ 31 := by decide
      omega
    · have := hb f m
      omega
  have l1 := nodup_len (so_nodup so) fun k m => (hm k).mp m
  rw [List.length_append] at l1
  try simp only [e_mNext, e_mSeq, e_mExpr, e_mRet, e_mRetN, e_mIfS, e_mBreak, e_mCont, e_mAsg, e_mPar, e_gmName, e_gmNil, e_gmCons, e_gmTup, e_gmSub, e_mVar, e_mC, e_mOp, e_mtB, e_mtT, e_mtNot, e_mtAnd, e_mtOr, e_mAnd, e_mOr, e_mAndT, e_mOrT, e_mIf, e_mNotB, e_mChain, e_maNil, e_maCons, e_mTup, e_mCall, e_mFld, e_mProp, e_mMeth, e_mUnO, e_mBinO, e_mCallO, e_mCMeth, e_mRaise, e_mTry, e_mFn, e_mNeg, e_mIsiB, e_mIsiO, e_mFor, e_miRange1, e_miRange2, e_miRangeW, e_miZip, e_zpT, e_mIsi2, e_miAny, e_seqT, e_powW, e_mAug, e_addI, e_fTupleT, e_mSl00, e_mSl01, e_mSl10, e_mSl11, e_miTup, e_body, e_addII, e_addIB, e_addSS, e_addTT, e_subII, e_mulII, e_fdivII, e_modII, e_powII, e_ltII, e_leII, e_gtII, e_geII, e_is, e_isNot, e_ixT, e_ixS, e_ixD, e_inD, e_fLenS, e_fLenT, e_fMax2, e_fMin2, e_fAbs, e_fIntI, e_fIntB, e_fBoolI, e_fBoolB, e_mExcF, e_tryNil, e_tryCons, e_mBM, e_mEqO, e_mNeO, e_fLenO, e_fBoolO, e_mtTO, e_mInO, e_mNotInO, e_mGetO, e_mSortedSet, e_mLstRg1, e_mDic1, e_mDic0, e_miRange3, e_mtYes, putD, List.getElem?_cons_zero, List.getElem?_cons_succ, List.set_cons_zero, List.set_cons_succ, List.map_cons, List.map_nil, List.length_cons, List.length_nil, List.cons_append, List.nil_append, List.append_nil, List.replicate, Nat.reduceAdd, Nat.reduceSub, Nat.reduceLeDiff, Nat.zero_add, true_and, and_true, reduceIte, Bool.false_eq_true, Bool.true_eq_false, Bool.not_true, Bool.not_false, w_mLst, w_mMake, w_miLst, w_gmUnl, w_mComp, w_mComp2, compL_nil, w_compL, w_mSetF, w_addRR]
  intro j S8 ej eS
  subst ej eS
  refine init_w w (List.mem_cons_self ..) (by omega) (fun f m => (h0 f m).1) so (Int.le_refl _) (.inl rfl) fun S9 gs p hk w => ?_
  obtain ⟨rfl, rfl⟩ := hk.fin
  refine ⟨rfl, ?_⟩
  try simp only [e_mNext, e_mSeq, e_mExpr, e_mRet, e_mRetN, e_mIfS, e_mBreak, e_mCont, e_mAsg, e_mPar, e_gmName, e_gmNil, e_gmCons, e_gmTup, e_gmSub, e_mVar, e_mC, e_mOp, e_mtB, e_mtT, e_mtNot, e_mtAnd, e_mtOr, e_mAnd, e_mOr, e_mAndT, e_mOrT, e_mIf, e_mNotB, e_mChain, e_maNil, e_maCons, e_mTup, e_mCall, e_mFld, e_mProp, e_mMeth, e_mUnO, e_mBinO, e_mCallO, e_mCMeth, e_mRaise, e_mTry, e_mFn, e_mNeg, e_mIsiB, e_mIsiO, e_mFor, e_miRange1, e_miRange2, e_miRangeW, e_miZip, e_zpT, e_mIsi2, e_miAny, e_seqT, e_powW, e_mAug, e_addI, e_fTupleT, e_mSl00, e_mSl01, e_mSl10, e_mSl11, e_miTup, e_body, e_addII, e_addIB, e_addSS, e_addTT, e_subII, e_mulII, e_fdivII, e_modII, e_powII, e_ltII, e_leII, e_gtII, e_geII, e_is, e_isNot, e_ixT, e_ixS, e_ixD, e_inD, e_fLenS, e_fLenT, e_fMax2, e_fMin2, e_fAbs, e_fIntI, e_fIntB, e_fBoolI, e_fBoolB, e_mExcF, e_tryNil, e_tryCons, e_mBM, e_mEqO, e_mNeO, e_fLenO, e_fBoolO, e_mtTO, e_mInO, e_mNotInO, e_mGetO, e_mSortedSet, e_mLstRg1, e_mDic1, e_mDic0, e_miRange3, e_mtYes, putD, List.getElem?_cons_zero, List.getElem?_cons_succ, List.set_cons_zero, List.set_cons_succ, List.map_cons, List.map_nil, List.length_cons, List.length_nil, List.cons_append, List.nil_append, List.append_nil, List.replicate, Nat.reduceAdd, Nat.reduceSub, Nat.reduceLeDiff, Nat.zero_add, true_and, and_true, reduceIte, Bool.false_eq_true, Bool.true_eq_false, Bool.not_true, Bool.not_false, w_mLst, w_mMake, w_miLst, w_gmUnl, w_mComp, w_mComp2, compL_nil, w_compL, w_mSetF, w_addRR]
  have m2 : (S7.length, mom gs 0) ∈ (S7.length, mom gs 0) :: (i5, .lst (gs.map D.int)) :: L := List.mem_cons_self ..
  have m1 : (i5, .lst (gs.map D.int)) ∈ (S7.length, mom gs 0) :: (i5, .lst (gs.map D.int)) :: L := .tail _ (List.mem_cons_self ..)
  refine ins_ok w m2 ?_
  refine period_w w m2 ?_
  try simp only [e_mNext, e_mSeq, e_mExpr, e_mRet, e_mRetN, e_mIfS, e_mBreak, e_mCont, e_mAsg, e_mPar, e_gmName, e_gmNil, e_gmCons, e_gmTup, e_gmSub, e_mVar, e_mC, e_mOp, e_mtB, e_mtT, e_mtNot, e_mtAnd, e_mtOr, e_mAnd, e_mOr, e_mAndT, e_mOrT, e_mIf, e_mNotB, e_mChain, e_maNil, e_maCons, e_mTup, e_mCall, e_mFld, e_mProp, e_mMeth, e_mUnO, e_mBinO, e_mCallO, e_mCMeth, e_mRaise, e_mTry, e_mFn, e_mNeg, e_mIsiB, e_mIsiO, e_mFor, e_miRange1, e_miRange2, e_miRangeW, e_miZip, e_zpT, e_mIsi2, e_miAny, e_seqT, e_powW, e_mAug, e_addI, e_fTupleT, e_mSl00, e_mSl01, e_mSl10, e_mSl11, e_miTup, e_body, e_addII, e_addIB, e_addSS, e_addTT, e_subII, e_mulII, e_fdivII, e_modII, e_powII, e_ltII, e_leII, e_gtII, e_geII, e_is, e_isNot, e_ixT, e_ixS, e_ixD, e_inD, e_fLenS, e_fLenT, e_fMax2, e_fMin2, e_fAbs, e_fIntI, e_fIntB, e_fBoolI, e_fBoolB, e_mExcF, e_tryNil, e_tryCons, e_mBM, e_mEqO, e_mNeO, e_fLenO, e_fBoolO, e_mtTO, e_mInO, e_mNotInO, e_mGetO, e_mSortedSet, e_mLstRg1, e_mDic1, e_mDic0, e_miRange3, e_mtYes, putD, List.getElem?_cons_zero, List.getElem?_cons_succ, List.set_cons_zero, List.set_cons_succ, List.map_cons, List.map_nil, List.length_cons, List.length_nil, List.cons_append, List.nil_append, List.append_nil, List.replicate, Nat.reduceAdd, Nat.reduceSub, Nat.reduceLeDiff, Nat.zero_add, true_and, and_true, reduceIte, Bool.false_eq_true, Bool.true_eq_false, Bool.not_true, Bool.not_false, w_mLst, w_mMake, w_miLst, w_gmUnl, w_mComp, w_mComp2, compL_nil, w_compL, w_mSetF, w_addRR]
  refine ins_ok w m2 ?_
  refine firsts_w w m2 ?_
  try simp only [e_mNext, e_mSeq, e_mExpr, e_mRet, e_mRetN, e_mIfS, e_mBreak, e_mCont, e_mAsg, e_mPar, e_gmName, e_gmNil, e_gmCons, e_gmTup, e_gmSub, e_mVar, e_mC, e_mOp, e_mtB, e_mtT, e_mtNot, e_mtAnd, e_mtOr, e_mAnd, e_mOr, e_mAndT, e_mOrT, e_mIf, e_mNotB, e_mChain, e_maNil, e_maCons, e_mTup, e_mCall, e_mFld, e_mProp, e_mMeth, e_mUnO, e_mBinO, e_mCallO, e_mCMeth, e_mRaise, e_mTry, e_mFn, e_mNeg, e_mIsiB, e_mIsiO, e_mFor, e_miRange1, e_miRange2, e_miRangeW, e_miZip, e_zpT, e_mIsi2, e_miAny, e_seqT, e_powW, e_mAug, e_addI, e_fTupleT, e_mSl00, e_mSl01, e_mSl10, e_mSl11, e_miTup, e_body, e_addII, e_addIB, e_addSS, e_addTT, e_subII, e_mulII, e_fdivII, e_modII, e_powII, e_ltII, e_leII, e_gtII, e_geII, e_is, e_isNot, e_ixT, e_ixS, e_ixD, e_inD, e_fLenS, e_fLenT, e_fMax2, e_fMin2, e_fAbs, e_fIntI, e_fIntB, e_fBoolI, e_fBoolB, e_mExcF, e_tryNil, e_tryCons, e_mBM, e_mEqO, e_mNeO, e_fLenO, e_fBoolO, e_mtTO, e_mInO, e_mNotInO, e_mGetO, e_mSortedSet, e_mLstRg1, e_mDic1, e_mDic0, e_miRange3, e_mtYes, putD, List.getElem?_cons_zero, List.getElem?_cons_succ, List.set_cons_zero, List.set_cons_succ, List.map_cons, List.map_nil, List.length_cons, List.length_nil, List.cons_append, List.nil_append, List.append_nil, List.replicate, Nat.reduceAdd, Nat.reduceSub, Nat.reduceLeDiff, Nat.zero_add, true_and, and_true, reduceIte, Bool.false_eq_true, Bool.true_eq_false, Bool.not_true, Bool.not_false, w_mLst, w_mMake, w_miLst, w_gmUnl, w_mComp, w_mComp2, compL_nil, w_compL, w_mSetF, w_addRR]
  refine ⟨(sl_pos (by simp)), ?_⟩
  intro i8 S10 e5 e6
  replace w := w.new e5 e6
  refine tuple_w w (.tail _ m1) ?_
  refine ⟨(sl_pos (by simp)), ?_⟩
  intro i9 S11 e7 e8
  replace w := w.new e7 e8
  refine mNe_pf (w.get (.tail _ (List.mem_cons_self ..))) (w.get (List.mem_cons_self ..)) rfl rfl ?_
  simp only [e_mNext, e_mSeq, e_mExpr, e_mRet, e_mRetN, e_mIfS, e_mBreak, e_mCont, e_mAsg, e_mPar, e_gmName, e_gmNil, e_gmCons, e_gmTup, e_gmSub, e_mVar, e_mC, e_mOp, e_mtB, e_mtT, e_mtNot, e_mtAnd, e_mtOr, e_mAnd, e_mOr, e_mAndT, e_mOrT, e_mIf, e_mNotB, e_mChain, e_maNil, e_maCons, e_mTup, e_mCall, e_mFld, e_mProp, e_mMeth, e_mUnO, e_mBinO, e_mCallO, e_mCMeth, e_mRaise, e_mTry, e_mFn, e_mNeg, e_mIsiB, e_mIsiO, e_mFor, e_miRange1, e_miRange2, e_miRangeW, e_miZip, e_zpT, e_mIsi2, e_miAny, e_seqT, e_powW, e_mAug, e_addI, e_fTupleT, e_mSl00, e_mSl01, e_mSl10, e_mSl11, e_miTup, e_body, e_addII, e_addIB, e_addSS, e_addTT, e_subII, e_mulII, e_fdivII, e_modII, e_powII, e_ltII, e_leII, e_gtII, e_geII, e_is, e_isNot, e_ixT, e_ixS, e_ixD, e_inD, e_fLenS, e_fLenT, e_fMax2, e_fMin2, e_fAbs, e_fIntI, e_fIntB, e_fBoolI, e_fBoolB, e_mExcF, e_tryNil, e_tryCons, e_mBM, e_mEqO, e_mNeO, e_fLenO, e_fBoolO, e_mtTO, e_mInO, e_mNotInO, e_mGetO, e_mSortedSet, e_mLstRg1, e_mDic1, e_mDic0, e_miRange3, e_mtYes, putD, List.getElem?_cons_zero, List.getElem?_cons_succ, List.set_cons_zero, List.set_cons_succ, List.map_cons, List.map_nil, List.length_cons, List.length_nil, List.cons_append, List.nil_append, List.append_nil, List.replicate, Nat.reduceAdd, Nat.reduceSub, Nat.reduceLeDiff, Nat.zero_add, true_and, and_true, reduceIte, Bool.false_eq_true, Bool.true_eq_false, Bool.not_true, Bool.not_false, w_mLst, w_mMake, w_miLst, w_gmUnl, w_mComp, w_mComp2, compL_nil, w_compL, w_mSetF, w_addRR]
  refine ins_ok w (.tail _ (.tail _ m2)) ?_
  refine bool_w w (.tail _ (.tail _ m2)) ?_
  try simp only [e_mNext, e_mSeq, e_mExpr, e_mRet, e_mRetN, e_mIfS, e_mBreak, e_mCont, e_mAsg, e_mPar, e_gmName, e_gmNil, e_gmCons, e_gmTup, e_gmSub, e_mVar, e_mC, e_mOp, e_mtB, e_mtT, e_mtNot, e_mtAnd, e_mtOr, e_mAnd, e_mOr, e_mAndT, e_mOrT, e_mIf, e_mNotB, e_mChain, e_maNil, e_maCons, e_mTup, e_mCall, e_mFld, e_mProp, e_mMeth, e_mUnO, e_mBinO, e_mCallO, e_mCMeth, e_mRaise, e_mTry, e_mFn, e_mNeg, e_mIsiB, e_mIsiO, e_mFor, e_miRange1, e_miRange2, e_miRangeW, e_miZip, e_zpT, e_mIsi2, e_miAny, e_seqT, e_powW, e_mAug, e_addI, e_fTupleT, e_mSl00, e_mSl01, e_mSl10, e_mSl11, e_miTup, e_body, e_addII, e_addIB, e_addSS, e_addTT, e_subII, e_mulII, e_fdivII, e_modII, e_powII, e_ltII, e_leII, e_gtII, e_geII, e_is, e_isNot, e_ixT, e_ixS, e_ixD, e_inD, e_fLenS, e_fLenT, e_fMax2, e_fMin2, e_fAbs, e_fIntI, e_fIntB, e_fBoolI, e_fBoolB, e_mExcF, e_tryNil, e_tryCons, e_mBM, e_mEqO, e_mNeO, e_fLenO, e_fBoolO, e_mtTO, e_mInO, e_mNotInO, e_mGetO, e_mSortedSet, e_mLstRg1, e_mDic1, e_mDic0, e_miRange3, e_mtYes, putD, List.getElem?_cons_zero, List.getElem?_cons_succ, List.set_cons_zero, List.set_cons_succ, List.map_cons, List.map_nil, List.length_cons, List.length_nil, List.cons_append, List.nil_append, List.append_nil, List.replicate, Nat.reduceAdd, Nat.reduceSub, Nat.reduceLeDiff, Nat.zero_add, true_and, and_true, reduceIte, Bool.false_eq_true, Bool.true_eq_false, Bool.not_true, Bool.not_false, w_mLst, w_mMake, w_miLst, w_gmUnl, w_mComp, w_mComp2, compL_nil, w_compL, w_mSetF, w_addRR]
  refine ⟨Nat.zero_le _, ?_⟩
  intro i10 S12 e9 e10
  replace w := w.new e9 e10
  refine mNe_lstI (b := []) (w.get (.tail _ (.tail _ (.tail _ m1)))) (w.get (List.mem_cons_self ..)) ?_
  rw [show decide (gs ≠ []) = !decide (gs = []) from by simp, mNe_bl, beq_self_eq_true]
  simp only [e_mNext, e_mSeq, e_mExpr, e_mRet, e_mRetN, e_mIfS, e_mBreak, e_mCont, e_mAsg, e_mPar, e_gmName, e_gmNil, e_gmCons, e_gmTup, e_gmSub, e_mVar, e_mC, e_mOp, e_mtB, e_mtT, e_mtNot, e_mtAnd, e_mtOr, e_mAnd, e_mOr, e_mAndT, e_mOrT, e_mIf, e_mNotB, e_mChain, e_maNil, e_maCons, e_mTup, e_mCall, e_mFld, e_mProp, e_mMeth, e_mUnO, e_mBinO, e_mCallO, e_mCMeth, e_mRaise, e_mTry, e_mFn, e_mNeg, e_mIsiB, e_mIsiO, e_mFor, e_miRange1, e_miRange2, e_miRangeW, e_miZip, e_zpT, e_mIsi2, e_miAny, e_seqT, e_powW, e_mAug, e_addI, e_fTupleT, e_mSl00, e_mSl01, e_mSl10, e_mSl11, e_miTup, e_body, e_addII, e_addIB, e_addSS, e_addTT, e_subII, e_mulII, e_fdivII, e_modII, e_powII, e_ltII, e_leII, e_gtII, e_geII, e_is, e_isNot, e_ixT, e_ixS, e_ixD, e_inD, e_fLenS, e_fLenT, e_fMax2, e_fMin2, e_fAbs, e_fIntI, e_fIntB, e_fBoolI, e_fBoolB, e_mExcF, e_tryNil, e_tryCons, e_mBM, e_mEqO, e_mNeO, e_fLenO, e_fBoolO, e_mtTO, e_mInO, e_mNotInO, e_mGetO, e_mSortedSet, e_mLstRg1, e_mDic1, e_mDic0, e_miRange3, e_mtYes, putD, List.getElem?_cons_zero, List.getElem?_cons_succ, List.set_cons_zero, List.set_cons_succ, List.map_cons, List.map_nil, List.length_cons, List.length_nil, List.cons_append, List.nil_append, List.append_nil, List.replicate, Nat.reduceAdd, Nat.reduceSub, Nat.reduceLeDiff, Nat.zero_add, true_and, and_true, reduceIte, Bool.false_eq_true, Bool.true_eq_false, Bool.not_true, Bool.not_false, w_mLst, w_mMake, w_miLst, w_gmUnl, w_mComp, w_mComp2, compL_nil, w_compL, w_mSetF, w_addRR]
  replace w := W.sub (L' := (S7.length, mom gs 0) :: (i5, .lst (gs.map D.int)) :: L) w fun _ _ m => .tail _ (.tail _ (.tail _ m))
  refine ⟨⟨by decide, by decide⟩, ?_⟩
  rw [rangeD_map]
  simp only [wipeD, List.set_cons_succ, List.set_cons_zero]
  refine compA D.int (fun _ => none) trivial ((List.range (Int.toNat 60)).map fun i : Nat => (0 : Int) + i) [] (by simp) (fun v hv acc C hl h => ?_) ?_
  · have v0 : 0 ≤ v := by
      obtain ⟨a, ha, rfl⟩ := List.mem_map.mp hv
      omega
    simp only [e_mNext, e_mSeq, e_mExpr, e_mRet, e_mRetN, e_mIfS, e_mBreak, e_mCont, e_mAsg, e_mPar, e_gmName, e_gmNil, e_gmCons, e_gmTup, e_gmSub, e_mVar, e_mC, e_mOp, e_mtB, e_mtT, e_mtNot, e_mtAnd, e_mtOr, e_mAnd, e_mOr, e_mAndT, e_mOrT, e_mIf, e_mNotB, e_mChain, e_maNil, e_maCons, e_mTup, e_mCall, e_mFld, e_mProp, e_mMeth, e_mUnO, e_mBinO, e_mCallO, e_mCMeth, e_mRaise, e_mTry, e_mFn, e_mNeg, e_mIsiB, e_mIsiO, e_mFor, e_miRange1, e_miRange2, e_miRangeW, e_miZip, e_zpT, e_mIsi2, e_miAny, e_seqT, e_powW, e_mAug, e_addI, e_fTupleT, e_mSl00, e_mSl01, e_mSl10, e_mSl11, e_miTup, e_body, e_addII, e_addIB, e_addSS, e_addTT, e_subII, e_mulII, e_fdivII, e_modII, e_powII, e_ltII, e_leII, e_gtII, e_geII, e_is, e_isNot, e_ixT, e_ixS, e_ixD, e_inD, e_fLenS, e_fLenT, e_fMax2, e_fMin2, e_fAbs, e_fIntI, e_fIntB, e_fBoolI, e_fBoolB, e_mExcF, e_tryNil, e_tryCons, e_mBM, e_mEqO, e_mNeO, e_fLenO, e_fBoolO, e_mtTO, e_mInO, e_mNotInO, e_mGetO, e_mSortedSet, e_mLstRg1, e_mDic1, e_mDic0, e_miRange3, e_mtYes, putD, List.getElem?_cons_zero, List.getElem?_cons_succ, List.set_cons_zero, List.set_cons_succ, List.map_cons, List.map_nil, List.length_cons, List.length_nil, List.cons_append, List.nil_append, List.append_nil, List.replicate, Nat.reduceAdd, Nat.reduceSub, Nat.reduceLeDiff, Nat.zero_add, true_and, and_true, reduceIte, Bool.false_eq_true, Bool.true_eq_false, Bool.not_true, Bool.not_false, w_mLst, w_mMake, w_miLst, w_gmUnl, w_mComp, w_mComp2, compL_nil, w_compL, w_mSetF, w_addRR]
    refine ins_ok w m2 ?_
    refine contains_w w m2 (Int.le_refl _) ?_
    try simp only [e_mNext, e_mSeq, e_mExpr, e_mRet, e_mRetN, e_mIfS, e_mBreak, e_mCont, e_mAsg, e_mPar, e_gmName, e_gmNil, e_gmCons, e_gmTup, e_gmSub, e_mVar, e_mC, e_mOp, e_mtB, e_mtT, e_mtNot, e_mtAnd, e_mtOr, e_mAnd, e_mOr, e_mAndT, e_mOrT, e_mIf, e_mNotB, e_mChain, e_maNil, e_maCons, e_mTup, e_mCall, e_mFld, e_mProp, e_mMeth, e_mUnO, e_mBinO, e_mCallO, e_mCMeth, e_mRaise, e_mTry, e_mFn, e_mNeg, e_mIsiB, e_mIsiO, e_mFor, e_miRange1, e_miRange2, e_miRangeW, e_miZip, e_zpT, e_mIsi2, e_miAny, e_seqT, e_powW, e_mAug, e_addI, e_fTupleT, e_mSl00, e_mSl01, e_mSl10, e_mSl11, e_miTup, e_body, e_addII, e_addIB, e_addSS, e_addTT, e_subII, e_mulII, e_fdivII, e_modII, e_powII, e_ltII, e_leII, e_gtII, e_geII, e_is, e_isNot, e_ixT, e_ixS, e_ixD, e_inD, e_fLenS, e_fLenT, e_fMax2, e_fMin2, e_fAbs, e_fIntI, e_fIntB, e_fBoolI, e_fBoolB, e_mExcF, e_tryNil, e_tryCons, e_mBM, e_mEqO, e_mNeO, e_fLenO, e_fBoolO, e_mtTO, e_mInO, e_mNotInO, e_mGetO, e_mSortedSet, e_mLstRg1, e_mDic1, e_mDic0, e_miRange3, e_mtYes, putD, List.getElem?_cons_zero, List.getElem?_cons_succ, List.set_cons_zero, List.set_cons_succ, List.map_cons, List.map_nil, List.length_cons, List.length_nil, List.cons_append, List.nil_append, List.append_nil, List.replicate, Nat.reduceAdd, Nat.reduceSub, Nat.reduceLeDiff, Nat.zero_add, true_and, and_true, reduceIte, Bool.false_eq_true, Bool.true_eq_false, Bool.not_true, Bool.not_false, w_mLst, w_mMake, w_miLst, w_gmUnl, w_mComp, w_mComp2, compL_nil, w_compL, w_mSetF, w_addRR]
    rw [in_lstI (w.get m1), decide_eq_true v0, Bool.true_and, Int.emod_zero, mNe_bl, beq_self_eq_true]
    simpa using h
  · have en : (((List.range (Int.toNat 60)).map fun i : Nat => (0 : Int) + i).filterMap fun _ => (none : Option D)) = [] := by simp
    rw [List.nil_append, en]
    intro i11 S13 e11 e12
    replace w := w.new e11 e12
    refine ⟨Nat.zero_le _, ?_⟩
    intro i12 S14 e13 e14
    replace w := w.new e13 e14
    refine mNe_lstI (a := []) (b := []) (w.get (.tail _ (List.mem_cons_self ..))) (w.get (List.mem_cons_self ..)) ?_
    simp only [decide_true, Bool.not_true, e_mNext, e_mSeq, e_mExpr, e_mRet, e_mRetN, e_mIfS, e_mBreak, e_mCont, e_mAsg, e_mPar, e_gmName, e_gmNil, e_gmCons, e_gmTup, e_gmSub, e_mVar, e_mC, e_mOp, e_mtB, e_mtT, e_mtNot, e_mtAnd, e_mtOr, e_mAnd, e_mOr, e_mAndT, e_mOrT, e_mIf, e_mNotB, e_mChain, e_maNil, e_maCons, e_mTup, e_mCall, e_mFld, e_mProp, e_mMeth, e_mUnO, e_mBinO, e_mCallO, e_mCMeth, e_mRaise, e_mTry, e_mFn, e_mNeg, e_mIsiB, e_mIsiO, e_mFor, e_miRange1, e_miRange2, e_miRangeW, e_miZip, e_zpT, e_mIsi2, e_miAny, e_seqT, e_powW, e_mAug, e_addI, e_fTupleT, e_mSl00, e_mSl01, e_mSl10, e_mSl11, e_miTup, e_body, e_addII, e_addIB, e_addSS, e_addTT, e_subII, e_mulII, e_fdivII, e_modII, e_powII, e_ltII, e_leII, e_gtII, e_geII, e_is, e_isNot, e_ixT, e_ixS, e_ixD, e_inD, e_fLenS, e_fLenT, e_fMax2, e_fMin2, e_fAbs, e_fIntI, e_fIntB, e_fBoolI, e_fBoolB, e_mExcF, e_tryNil, e_tryCons, e_mBM, e_mEqO, e_mNeO, e_fLenO, e_fBoolO, e_mtTO, e_mInO, e_mNotInO, e_mGetO, e_mSortedSet, e_mLstRg1, e_mDic1, e_mDic0, e_miRange3, e_mtYes, putD, List.getElem?_cons_zero, List.getElem?_cons_succ, List.set_cons_zero, List.set_cons_succ, List.map_cons, List.map_nil, List.length_cons, List.length_nil, List.cons_append, List.nil_append, List.append_nil, List.replicate, Nat.reduceAdd, Nat.reduceSub, Nat.reduceLeDiff, Nat.zero_add, true_and, and_true, reduceIte, Bool.false_eq_true, Bool.true_eq_false, Bool.not_true, Bool.not_false, w_mLst, w_mMake, w_miLst, w_gmUnl, w_mComp, w_mComp2, compL_nil, w_compL, w_mSetF, w_addRR]
    refine fin1_w (w.sub fun _ _ m => .tail _ (.tail _ m)) m1 m2 (by omega) h0 so fun S15 w => hq _ (w.sub fun _ _ m => .tail _ (.tail _ m))
end
end Lw

namespace Lw
open PySem PySem.Spec PyProof.Rows L2

/-- no moments -/
def BadM (n : Nat) (B : Sto) (L : List (Nat × O)) (d : D) : Prop := ∃ z, (∀ (S : Sto) (q : QD) (x : QX), W n B L S → (∀ S', W n B L S' → q (.bl false) S') → u_are_firsts [d] S q x) ∧ ∀ S, W n B L S → Shw S d z
/-- no period -/
def BadN (e : D) : Prop := ∃ z, (∀ S, Okt S e) ∧ (isIntD e = false ∨ ∃ i, e = .int i ∧ i < 0) ∧ ∀ S, Shw S e z
theorem show19 : PyData.shown (.list [.int 1, .int 9]) = ("[1, 9]" : Str) := by decide +kernel
theorem so_some : PyData.strOk ("some" : Str) = true := by decide +kernel
theorem so_number : PyData.strOk ("number" : Str) = true := by decide +kernel
theorem so_19 : PyData.strOk ("[1, 9]" : Str) = true := by decide +kernel
section
variable {n : Nat} {B : Sto} {L L' : List (Nat × O)} {S S0 S' : Sto} {j j2 j3 i i1 i6 i4 f : Nat} {o : O} {ds xs : List D} {d e : D} {q : QD} {x : QX} {t p per k v a pc lim most P r l pts : Int} {K : QD} {md : MEnds} {fs gs hs fl cs few : List Int} {c0 c1 c2 c3 c4 c5 c6 c7 c8 c9 c10 : Option D} {z : Str}
theorem f19 : (∀ f ∈ ([1, 9] : List Int), 0 ≤ f) ∧ ([1, 9] : List Int).Pairwise (· < ·) := ⟨fun f m => by
  have e : f = 1 ∨ f = 9 := by simpa using m
  omega, by decide⟩
theorem ul1 (w : W n B L S) (hq : ∀ S', W n B L S' → md.nx [c0, c1, c2, c3, c4] S') : b_law_1 md [c0, c1, c2, c3, c4] S := by
  rw [e_b_law_1]
  simp only [e_mNext, e_mSeq, e_mExpr, e_mRet, e_mRetN, e_mIfS, e_mBreak, e_mCont, e_mAsg, e_mPar, e_gmName, e_gmNil, e_gmCons, e_gmTup, e_gmSub, e_mVar, e_mC, e_mOp, e_mtB, e_mtT, e_mtNot, e_mtAnd, e_mtOr, e_mAnd, e_mOr, e_mAndT, e_mOrT, e_mIf, e_mNotB, e_mChain, e_maNil, e_maCons, e_mTup, e_mCall, e_mFld, e_mProp, e_mMeth, e_mUnO, e_mBinO, e_mCallO, e_mCMeth, e_mRaise, e_mTry, e_mFn, e_mNeg, e_mIsiB, e_mIsiO, e_mFor, e_miRange1, e_miRange2, e_miRangeW, e_miZip, e_zpT, e_mIsi2, e_miAny, e_seqT, e_powW, e_mAug, e_addI, e_fTupleT, e_mSl00, e_mSl01, e_mSl10, e_mSl11, e_miTup, e_body, e_addII, e_addIB, e_addSS, e_addTT, e_subII, e_mulII, e_fdivII, e_modII, e_powII, e_ltII, e_leII, e_gtII, e_geII, e_is, e_isNot, e_ixT, e_ixS, e_ixD, e_inD, e_fLenS, e_fLenT, e_fMax2, e_fMin2, e_fAbs, e_fIntI, e_fIntB, e_fBoolI, e_fBoolB, e_mExcF, e_tryNil, e_tryCons, e_mBM, e_mEqO, e_mNeO, e_fLenO, e_fBoolO, e_mtTO, e_mInO, e_mNotInO, e_mGetO, e_mSortedSet, e_mLstRg1, e_mDic1, e_mDic0, e_miRange3, e_mtYes, putD, List.getElem?_cons_zero, List.getElem?_cons_succ, List.set_cons_zero, List.set_cons_succ, List.map_cons, List.map_nil, List.length_cons, List.length_nil, List.cons_append, List.nil_append, List.append_nil, List.replicate, Nat.reduceAdd, Nat.reduceSub, Nat.reduceLeDiff, Nat.zero_add, true_and, and_true, reduceIte, Bool.false_eq_true, Bool.true_eq_false, Bool.not_true, Bool.not_false, w_mLst, w_mMake, w_miLst, w_gmUnl, w_mComp, w_mComp2, compL_nil, w_compL, w_mSetF, w_addRR]
  refine ⟨(sl_pos (by simp)), ?_⟩
  intro i1 S1 e1 e2
  replace w := w.new e1 e2
  have shw : ∀ S', W n B ((i1, .lst [.int 1, .int 9]) :: L) S' → Shw S' (.ref i1) "[1, 9]" := fun S' w => by
    have o : Odd S' (.ref i1) (.list [.int 1, .int 9]) := ⟨⟨"list", ty_lst (w.get (List.mem_cons_self ..))⟩, by simp only [tr_lst (w.get (List.mem_cons_self ..)), tr_int, tr_str, tr_bl, tr_non, tr_tup, trL_cons, trL_nil, Option.map_some], by decide +kernel, by decide +kernel⟩
    have := o.shw
    rw [show19] at this
    exact this
  refine said_M (fun {K X} hX => ?_) shw fun i2 S2 w => ?_
  · have w1 := w.new (S' := S1 ++ [.ins "Moments" []]) rfl rfl
    refine init_lim (fs := [1, 9]) w1 (.tail _ (List.mem_cons_self ..)) (by simp) f19.1 f19.2 (by decide) (fun h => by have := h 9 (by simp); omega) fun S' w => hX S' (w.sub fun _ _ m => .tail _ m)
  · try simp only [e_mNext, e_mSeq, e_mExpr, e_mRet, e_mRetN, e_mIfS, e_mBreak, e_mCont, e_mAsg, e_mPar, e_gmName, e_gmNil, e_gmCons, e_gmTup, e_gmSub, e_mVar, e_mC, e_mOp, e_mtB, e_mtT, e_mtNot, e_mtAnd, e_mtOr, e_mAnd, e_mOr, e_mAndT, e_mOrT, e_mIf, e_mNotB, e_mChain, e_maNil, e_maCons, e_mTup, e_mCall, e_mFld, e_mProp, e_mMeth, e_mUnO, e_mBinO, e_mCallO, e_mCMeth, e_mRaise, e_mTry, e_mFn, e_mNeg, e_mIsiB, e_mIsiO, e_mFor, e_miRange1, e_miRange2, e_miRangeW, e_miZip, e_zpT, e_mIsi2, e_miAny, e_seqT, e_powW, e_mAug, e_addI, e_fTupleT, e_mSl00, e_mSl01, e_mSl10, e_mSl11, e_miTup, e_body, e_addII, e_addIB, e_addSS, e_addTT, e_subII, e_mulII, e_fdivII, e_modII, e_powII, e_ltII, e_leII, e_gtII, e_geII, e_is, e_isNot, e_ixT, e_ixS, e_ixD, e_inD, e_fLenS, e_fLenT, e_fMax2, e_fMin2, e_fAbs, e_fIntI, e_fIntB, e_fBoolI, e_fBoolB, e_mExcF, e_tryNil, e_tryCons, e_mBM, e_mEqO, e_mNeO, e_fLenO, e_fBoolO, e_mtTO, e_mInO, e_mNotInO, e_mGetO, e_mSortedSet, e_mLstRg1, e_mDic1, e_mDic0, e_miRange3, e_mtYes, putD, List.getElem?_cons_zero, List.getElem?_cons_succ, List.set_cons_zero, List.set_cons_succ, List.map_cons, List.map_nil, List.length_cons, List.length_nil, List.cons_append, List.nil_append, List.append_nil, List.replicate, Nat.reduceAdd, Nat.reduceSub, Nat.reduceLeDiff, Nat.zero_add, true_and, and_true, reduceIte, Bool.false_eq_true, Bool.true_eq_false, Bool.not_true, Bool.not_false, w_mLst, w_mMake, w_miLst, w_gmUnl, w_mComp, w_mComp2, compL_nil, w_compL, w_mSetF, w_addRR]
    refine ⟨(sl_pos (by simp)), ?_⟩
    intro i3 S3 e3 e4
    replace w := w.new e3 e4
    refine mNe_two (w.get (.tail _ (List.mem_cons_self ..))) (w.get (List.mem_cons_self ..)) so_some so_19 ?_
    simp only [e_mNext, e_mSeq, e_mExpr, e_mRet, e_mRetN, e_mIfS, e_mBreak, e_mCont, e_mAsg, e_mPar, e_gmName, e_gmNil, e_gmCons, e_gmTup, e_gmSub, e_mVar, e_mC, e_mOp, e_mtB, e_mtT, e_mtNot, e_mtAnd, e_mtOr, e_mAnd, e_mOr, e_mAndT, e_mOrT, e_mIf, e_mNotB, e_mChain, e_maNil, e_maCons, e_mTup, e_mCall, e_mFld, e_mProp, e_mMeth, e_mUnO, e_mBinO, e_mCallO, e_mCMeth, e_mRaise, e_mTry, e_mFn, e_mNeg, e_mIsiB, e_mIsiO, e_mFor, e_miRange1, e_miRange2, e_miRangeW, e_miZip, e_zpT, e_mIsi2, e_miAny, e_seqT, e_powW, e_mAug, e_addI, e_fTupleT, e_mSl00, e_mSl01, e_mSl10, e_mSl11, e_miTup, e_body, e_addII, e_addIB, e_addSS, e_addTT, e_subII, e_mulII, e_fdivII, e_modII, e_powII, e_ltII, e_leII, e_gtII, e_geII, e_is, e_isNot, e_ixT, e_ixS, e_ixD, e_inD, e_fLenS, e_fLenT, e_fMax2, e_fMin2, e_fAbs, e_fIntI, e_fIntB, e_fBoolI, e_fBoolB, e_mExcF, e_tryNil, e_tryCons, e_mBM, e_mEqO, e_mNeO, e_fLenO, e_fBoolO, e_mtTO, e_mInO, e_mNotInO, e_mGetO, e_mSortedSet, e_mLstRg1, e_mDic1, e_mDic0, e_miRange3, e_mtYes, putD, List.getElem?_cons_zero, List.getElem?_cons_succ, List.set_cons_zero, List.set_cons_succ, List.map_cons, List.map_nil, List.length_cons, List.length_nil, List.cons_append, List.nil_append, List.append_nil, List.replicate, Nat.reduceAdd, Nat.reduceSub, Nat.reduceLeDiff, Nat.zero_add, true_and, and_true, reduceIte, Bool.false_eq_true, Bool.true_eq_false, Bool.not_true, Bool.not_false, w_mLst, w_mMake, w_miLst, w_gmUnl, w_mComp, w_mComp2, compL_nil, w_compL, w_mSetF, w_addRR]
    refine ⟨(sl_pos (by simp)), ?_⟩
    intro i4 S4 e5 e6
    replace w := w.new e5 e6
    refine said_0 (n := n) (B := B) (L := L) (fun {K X} hX => ?_) fun S5 w => ?_
    · refine init_w (fs := [1, 9]) w (List.mem_cons_self ..) (by simp) f19.1 f19.2 (by decide) (.inr fun f m => ?_) fun S6 gs p _ w => hX S6 (w.sub fun _ _ m => .tail _ (.tail _ (.tail _ (.tail _ (.tail _ m)))))
      have e : f = 1 ∨ f = 9 := by simpa using m
      omega
    · simp only [isNonD, e_mNext, e_mSeq, e_mExpr, e_mRet, e_mRetN, e_mIfS, e_mBreak, e_mCont, e_mAsg, e_mPar, e_gmName, e_gmNil, e_gmCons, e_gmTup, e_gmSub, e_mVar, e_mC, e_mOp, e_mtB, e_mtT, e_mtNot, e_mtAnd, e_mtOr, e_mAnd, e_mOr, e_mAndT, e_mOrT, e_mIf, e_mNotB, e_mChain, e_maNil, e_maCons, e_mTup, e_mCall, e_mFld, e_mProp, e_mMeth, e_mUnO, e_mBinO, e_mCallO, e_mCMeth, e_mRaise, e_mTry, e_mFn, e_mNeg, e_mIsiB, e_mIsiO, e_mFor, e_miRange1, e_miRange2, e_miRangeW, e_miZip, e_zpT, e_mIsi2, e_miAny, e_seqT, e_powW, e_mAug, e_addI, e_fTupleT, e_mSl00, e_mSl01, e_mSl10, e_mSl11, e_miTup, e_body, e_addII, e_addIB, e_addSS, e_addTT, e_subII, e_mulII, e_fdivII, e_modII, e_powII, e_ltII, e_leII, e_gtII, e_geII, e_is, e_isNot, e_ixT, e_ixS, e_ixD, e_inD, e_fLenS, e_fLenT, e_fMax2, e_fMin2, e_fAbs, e_fIntI, e_fIntB, e_fBoolI, e_fBoolB, e_mExcF, e_tryNil, e_tryCons, e_mBM, e_mEqO, e_mNeO, e_fLenO, e_fBoolO, e_mtTO, e_mInO, e_mNotInO, e_mGetO, e_mSortedSet, e_mLstRg1, e_mDic1, e_mDic0, e_miRange3, e_mtYes, putD, List.getElem?_cons_zero, List.getElem?_cons_succ, List.set_cons_zero, List.set_cons_succ, List.map_cons, List.map_nil, List.length_cons, List.length_nil, List.cons_append, List.nil_append, List.append_nil, List.replicate, Nat.reduceAdd, Nat.reduceSub, Nat.reduceLeDiff, Nat.zero_add, true_and, and_true, reduceIte, Bool.false_eq_true, Bool.true_eq_false, Bool.not_true, Bool.not_false, w_mLst, w_mMake, w_miLst, w_gmUnl, w_mComp, w_mComp2, compL_nil, w_compL, w_mSetF, w_addRR]
      exact hq _ w
theorem ul2 (w : W n B L S) (hd : BadM n B L d) (he : BadN e) (hq : ∀ S', W n B L S' → md.nx [c0, c1, c2, some d, some e] S') : b_law_2 md [c0, c1, c2, some d, some e] S := by
  rw [e_b_law_2]
  simp only [e_mNext, e_mSeq, e_mExpr, e_mRet, e_mRetN, e_mIfS, e_mBreak, e_mCont, e_mAsg, e_mPar, e_gmName, e_gmNil, e_gmCons, e_gmTup, e_gmSub, e_mVar, e_mC, e_mOp, e_mtB, e_mtT, e_mtNot, e_mtAnd, e_mtOr, e_mAnd, e_mOr, e_mAndT, e_mOrT, e_mIf, e_mNotB, e_mChain, e_maNil, e_maCons, e_mTup, e_mCall, e_mFld, e_mProp, e_mMeth, e_mUnO, e_mBinO, e_mCallO, e_mCMeth, e_mRaise, e_mTry, e_mFn, e_mNeg, e_mIsiB, e_mIsiO, e_mFor, e_miRange1, e_miRange2, e_miRangeW, e_miZip, e_zpT, e_mIsi2, e_miAny, e_seqT, e_powW, e_mAug, e_addI, e_fTupleT, e_mSl00, e_mSl01, e_mSl10, e_mSl11, e_miTup, e_body, e_addII, e_addIB, e_addSS, e_addTT, e_subII, e_mulII, e_fdivII, e_modII, e_powII, e_ltII, e_leII, e_gtII, e_geII, e_is, e_isNot, e_ixT, e_ixS, e_ixD, e_inD, e_fLenS, e_fLenT, e_fMax2, e_fMin2, e_fAbs, e_fIntI, e_fIntB, e_fBoolI, e_fBoolB, e_mExcF, e_tryNil, e_tryCons, e_mBM, e_mEqO, e_mNeO, e_fLenO, e_fBoolO, e_mtTO, e_mInO, e_mNotInO, e_mGetO, e_mSortedSet, e_mLstRg1, e_mDic1, e_mDic0, e_miRange3, e_mtYes, putD, List.getElem?_cons_zero, List.getElem?_cons_succ, List.set_cons_zero, List.set_cons_succ, List.map_cons, List.map_nil, List.length_cons, List.length_nil, List.cons_append, List.nil_append, List.append_nil, List.replicate, Nat.reduceAdd, Nat.reduceSub, Nat.reduceLeDiff, Nat.zero_add, true_and, and_true, reduceIte, Bool.false_eq_true, Bool.true_eq_false, Bool.not_true, Bool.not_false, w_mLst, w_mMake, w_miLst, w_gmUnl, w_mComp, w_mComp2, compL_nil, w_compL, w_mSetF, w_addRR]
  obtain ⟨z, af, shw⟩ := hd
  obtain ⟨z2, okt, bad, shw2⟩ := he
  refine said_M (fun {K X} hX => ?_) shw fun i1 S1 w => ?_
  · have w1 := w.new (S' := S ++ [.ins "Moments" []]) rfl rfl
    exact init_bad (L := L) (n := n) (B := B) (fun {q x} h => af _ q x (w1.sub fun _ _ m => .tail _ m) h) hX
  · have w0 : W n B L S1 := w.sub fun _ _ m => .tail _ m
    try simp only [e_mNext, e_mSeq, e_mExpr, e_mRet, e_mRetN, e_mIfS, e_mBreak, e_mCont, e_mAsg, e_mPar, e_gmName, e_gmNil, e_gmCons, e_gmTup, e_gmSub, e_mVar, e_mC, e_mOp, e_mtB, e_mtT, e_mtNot, e_mtAnd, e_mtOr, e_mAnd, e_mOr, e_mAndT, e_mOrT, e_mIf, e_mNotB, e_mChain, e_maNil, e_maCons, e_mTup, e_mCall, e_mFld, e_mProp, e_mMeth, e_mUnO, e_mBinO, e_mCallO, e_mCMeth, e_mRaise, e_mTry, e_mFn, e_mNeg, e_mIsiB, e_mIsiO, e_mFor, e_miRange1, e_miRange2, e_miRangeW, e_miZip, e_zpT, e_mIsi2, e_miAny, e_seqT, e_powW, e_mAug, e_addI, e_fTupleT, e_mSl00, e_mSl01, e_mSl10, e_mSl11, e_miTup, e_body, e_addII, e_addIB, e_addSS, e_addTT, e_subII, e_mulII, e_fdivII, e_modII, e_powII, e_ltII, e_leII, e_gtII, e_geII, e_is, e_isNot, e_ixT, e_ixS, e_ixD, e_inD, e_fLenS, e_fLenT, e_fMax2, e_fMin2, e_fAbs, e_fIntI, e_fIntB, e_fBoolI, e_fBoolB, e_mExcF, e_tryNil, e_tryCons, e_mBM, e_mEqO, e_mNeO, e_fLenO, e_fBoolO, e_mtTO, e_mInO, e_mNotInO, e_mGetO, e_mSortedSet, e_mLstRg1, e_mDic1, e_mDic0, e_miRange3, e_mtYes, putD, List.getElem?_cons_zero, List.getElem?_cons_succ, List.set_cons_zero, List.set_cons_succ, List.map_cons, List.map_nil, List.length_cons, List.length_nil, List.cons_append, List.nil_append, List.append_nil, List.replicate, Nat.reduceAdd, Nat.reduceSub, Nat.reduceLeDiff, Nat.zero_add, true_and, and_true, reduceIte, Bool.false_eq_true, Bool.true_eq_false, Bool.not_true, Bool.not_false, w_mLst, w_mMake, w_miLst, w_gmUnl, w_mComp, w_mComp2, compL_nil, w_compL, w_mSetF, w_addRR]
    refine (shw _ w0).rep ?_
    try simp only [e_mNext, e_mSeq, e_mExpr, e_mRet, e_mRetN, e_mIfS, e_mBreak, e_mCont, e_mAsg, e_mPar, e_gmName, e_gmNil, e_gmCons, e_gmTup, e_gmSub, e_mVar, e_mC, e_mOp, e_mtB, e_mtT, e_mtNot, e_mtAnd, e_mtOr, e_mAnd, e_mOr, e_mAndT, e_mOrT, e_mIf, e_mNotB, e_mChain, e_maNil, e_maCons, e_mTup, e_mCall, e_mFld, e_mProp, e_mMeth, e_mUnO, e_mBinO, e_mCallO, e_mCMeth, e_mRaise, e_mTry, e_mFn, e_mNeg, e_mIsiB, e_mIsiO, e_mFor, e_miRange1, e_miRange2, e_miRangeW, e_miZip, e_zpT, e_mIsi2, e_miAny, e_seqT, e_powW, e_mAug, e_addI, e_fTupleT, e_mSl00, e_mSl01, e_mSl10, e_mSl11, e_miTup, e_body, e_addII, e_addIB, e_addSS, e_addTT, e_subII, e_mulII, e_fdivII, e_modII, e_powII, e_ltII, e_leII, e_gtII, e_geII, e_is, e_isNot, e_ixT, e_ixS, e_ixD, e_inD, e_fLenS, e_fLenT, e_fMax2, e_fMin2, e_fAbs, e_fIntI, e_fIntB, e_fBoolI, e_fBoolB, e_mExcF, e_tryNil, e_tryCons, e_mBM, e_mEqO, e_mNeO, e_fLenO, e_fBoolO, e_mtTO, e_mInO, e_mNotInO, e_mGetO, e_mSortedSet, e_mLstRg1, e_mDic1, e_mDic0, e_miRange3, e_mtYes, putD, List.getElem?_cons_zero, List.getElem?_cons_succ, List.set_cons_zero, List.set_cons_succ, List.map_cons, List.map_nil, List.length_cons, List.length_nil, List.cons_append, List.nil_append, List.append_nil, List.replicate, Nat.reduceAdd, Nat.reduceSub, Nat.reduceLeDiff, Nat.zero_add, true_and, and_true, reduceIte, Bool.false_eq_true, Bool.true_eq_false, Bool.not_true, Bool.not_false, w_mLst, w_mMake, w_miLst, w_gmUnl, w_mComp, w_mComp2, compL_nil, w_compL, w_mSetF, w_addRR]
    refine ⟨(sl_pos (by simp)), ?_⟩
    intro i2 S2 e1 e2
    replace w := w.new e1 e2
    refine mNe_two (w.get (.tail _ (List.mem_cons_self ..))) (w.get (List.mem_cons_self ..)) so_some (shw _ w0).sk ?_
    simp only [e_mNext, e_mSeq, e_mExpr, e_mRet, e_mRetN, e_mIfS, e_mBreak, e_mCont, e_mAsg, e_mPar, e_gmName, e_gmNil, e_gmCons, e_gmTup, e_gmSub, e_mVar, e_mC, e_mOp, e_mtB, e_mtT, e_mtNot, e_mtAnd, e_mtOr, e_mAnd, e_mOr, e_mAndT, e_mOrT, e_mIf, e_mNotB, e_mChain, e_maNil, e_maCons, e_mTup, e_mCall, e_mFld, e_mProp, e_mMeth, e_mUnO, e_mBinO, e_mCallO, e_mCMeth, e_mRaise, e_mTry, e_mFn, e_mNeg, e_mIsiB, e_mIsiO, e_mFor, e_miRange1, e_miRange2, e_miRangeW, e_miZip, e_zpT, e_mIsi2, e_miAny, e_seqT, e_powW, e_mAug, e_addI, e_fTupleT, e_mSl00, e_mSl01, e_mSl10, e_mSl11, e_miTup, e_body, e_addII, e_addIB, e_addSS, e_addTT, e_subII, e_mulII, e_fdivII, e_modII, e_powII, e_ltII, e_leII, e_gtII, e_geII, e_is, e_isNot, e_ixT, e_ixS, e_ixD, e_inD, e_fLenS, e_fLenT, e_fMax2, e_fMin2, e_fAbs, e_fIntI, e_fIntB, e_fBoolI, e_fBoolB, e_mExcF, e_tryNil, e_tryCons, e_mBM, e_mEqO, e_mNeO, e_fLenO, e_fBoolO, e_mtTO, e_mInO, e_mNotInO, e_mGetO, e_mSortedSet, e_mLstRg1, e_mDic1, e_mDic0, e_miRange3, e_mtYes, putD, List.getElem?_cons_zero, List.getElem?_cons_succ, List.set_cons_zero, List.set_cons_succ, List.map_cons, List.map_nil, List.length_cons, List.length_nil, List.cons_append, List.nil_append, List.append_nil, List.replicate, Nat.reduceAdd, Nat.reduceSub, Nat.reduceLeDiff, Nat.zero_add, true_and, and_true, reduceIte, Bool.false_eq_true, Bool.true_eq_false, Bool.not_true, Bool.not_false, w_mLst, w_mMake, w_miLst, w_gmUnl, w_mComp, w_mComp2, compL_nil, w_compL, w_mSetF, w_addRR]
    refine ⟨(sl_pos (by simp)), ?_⟩
    intro i3 S3 e3 e4
    replace w := w.new e3 e4
    refine said_N (n := n) (B := B) (L := L) (fun {K X} hX => ?_) (fun S' _ => shw2 S') fun i4 S4 w => ?_
    · have w1 := w.new (S' := S3 ++ [.ins "Moments" []]) rfl rfl
      exact init_num (fs := [1, 9]) w1 (.tail _ (List.mem_cons_self ..)) (by simp) f19.1 f19.2 okt bad fun S' w => hX S' (w.sub fun _ _ m => .tail _ (.tail _ (.tail _ (.tail _ m))))
    · try simp only [e_mNext, e_mSeq, e_mExpr, e_mRet, e_mRetN, e_mIfS, e_mBreak, e_mCont, e_mAsg, e_mPar, e_gmName, e_gmNil, e_gmCons, e_gmTup, e_gmSub, e_mVar, e_mC, e_mOp, e_mtB, e_mtT, e_mtNot, e_mtAnd, e_mtOr, e_mAnd, e_mOr, e_mAndT, e_mOrT, e_mIf, e_mNotB, e_mChain, e_maNil, e_maCons, e_mTup, e_mCall, e_mFld, e_mProp, e_mMeth, e_mUnO, e_mBinO, e_mCallO, e_mCMeth, e_mRaise, e_mTry, e_mFn, e_mNeg, e_mIsiB, e_mIsiO, e_mFor, e_miRange1, e_miRange2, e_miRangeW, e_miZip, e_zpT, e_mIsi2, e_miAny, e_seqT, e_powW, e_mAug, e_addI, e_fTupleT, e_mSl00, e_mSl01, e_mSl10, e_mSl11, e_miTup, e_body, e_addII, e_addIB, e_addSS, e_addTT, e_subII, e_mulII, e_fdivII, e_modII, e_powII, e_ltII, e_leII, e_gtII, e_geII, e_is, e_isNot, e_ixT, e_ixS, e_ixD, e_inD, e_fLenS, e_fLenT, e_fMax2, e_fMin2, e_fAbs, e_fIntI, e_fIntB, e_fBoolI, e_fBoolB, e_mExcF, e_tryNil, e_tryCons, e_mBM, e_mEqO, e_mNeO, e_fLenO, e_fBoolO, e_mtTO, e_mInO, e_mNotInO, e_mGetO, e_mSortedSet, e_mLstRg1, e_mDic1, e_mDic0, e_miRange3, e_mtYes, putD, List.getElem?_cons_zero, List.getElem?_cons_succ, List.set_cons_zero, List.set_cons_succ, List.map_cons, List.map_nil, List.length_cons, List.length_nil, List.cons_append, List.nil_append, List.append_nil, List.replicate, Nat.reduceAdd, Nat.reduceSub, Nat.reduceLeDiff, Nat.zero_add, true_and, and_true, reduceIte, Bool.false_eq_true, Bool.true_eq_false, Bool.not_true, Bool.not_false, w_mLst, w_mMake, w_miLst, w_gmUnl, w_mComp, w_mComp2, compL_nil, w_compL, w_mSetF, w_addRR]
      refine (shw2 _).rep ?_
      try simp only [e_mNext, e_mSeq, e_mExpr, e_mRet, e_mRetN, e_mIfS, e_mBreak, e_mCont, e_mAsg, e_mPar, e_gmName, e_gmNil, e_gmCons, e_gmTup, e_gmSub, e_mVar, e_mC, e_mOp, e_mtB, e_mtT, e_mtNot, e_mtAnd, e_mtOr, e_mAnd, e_mOr, e_mAndT, e_mOrT, e_mIf, e_mNotB, e_mChain, e_maNil, e_maCons, e_mTup, e_mCall, e_mFld, e_mProp, e_mMeth, e_mUnO, e_mBinO, e_mCallO, e_mCMeth, e_mRaise, e_mTry, e_mFn, e_mNeg, e_mIsiB, e_mIsiO, e_mFor, e_miRange1, e_miRange2, e_miRangeW, e_miZip, e_zpT, e_mIsi2, e_miAny, e_seqT, e_powW, e_mAug, e_addI, e_fTupleT, e_mSl00, e_mSl01, e_mSl10, e_mSl11, e_miTup, e_body, e_addII, e_addIB, e_addSS, e_addTT, e_subII, e_mulII, e_fdivII, e_modII, e_powII, e_ltII, e_leII, e_gtII, e_geII, e_is, e_isNot, e_ixT, e_ixS, e_ixD, e_inD, e_fLenS, e_fLenT, e_fMax2, e_fMin2, e_fAbs, e_fIntI, e_fIntB, e_fBoolI, e_fBoolB, e_mExcF, e_tryNil, e_tryCons, e_mBM, e_mEqO, e_mNeO, e_fLenO, e_fBoolO, e_mtTO, e_mInO, e_mNotInO, e_mGetO, e_mSortedSet, e_mLstRg1, e_mDic1, e_mDic0, e_miRange3, e_mtYes, putD, List.getElem?_cons_zero, List.getElem?_cons_succ, List.set_cons_zero, List.set_cons_succ, List.map_cons, List.map_nil, List.length_cons, List.length_nil, List.cons_append, List.nil_append, List.append_nil, List.replicate, Nat.reduceAdd, Nat.reduceSub, Nat.reduceLeDiff, Nat.zero_add, true_and, and_true, reduceIte, Bool.false_eq_true, Bool.true_eq_false, Bool.not_true, Bool.not_false, w_mLst, w_mMake, w_miLst, w_gmUnl, w_mComp, w_mComp2, compL_nil, w_compL, w_mSetF, w_addRR]
      refine ⟨(sl_pos (by simp)), ?_⟩
      intro i5 S5 e5 e6
      replace w := w.new e5 e6
      refine mNe_two (w.get (.tail _ (List.mem_cons_self ..))) (w.get (List.mem_cons_self ..)) so_number (shw2 []).sk ?_
      simp only [e_mNext, e_mSeq, e_mExpr, e_mRet, e_mRetN, e_mIfS, e_mBreak, e_mCont, e_mAsg, e_mPar, e_gmName, e_gmNil, e_gmCons, e_gmTup, e_gmSub, e_mVar, e_mC, e_mOp, e_mtB, e_mtT, e_mtNot, e_mtAnd, e_mtOr, e_mAnd, e_mOr, e_mAndT, e_mOrT, e_mIf, e_mNotB, e_mChain, e_maNil, e_maCons, e_mTup, e_mCall, e_mFld, e_mProp, e_mMeth, e_mUnO, e_mBinO, e_mCallO, e_mCMeth, e_mRaise, e_mTry, e_mFn, e_mNeg, e_mIsiB, e_mIsiO, e_mFor, e_miRange1, e_miRange2, e_miRangeW, e_miZip, e_zpT, e_mIsi2, e_miAny, e_seqT, e_powW, e_mAug, e_addI, e_fTupleT, e_mSl00, e_mSl01, e_mSl10, e_mSl11, e_miTup, e_body, e_addII, e_addIB, e_addSS, e_addTT, e_subII, e_mulII, e_fdivII, e_modII, e_powII, e_ltII, e_leII, e_gtII, e_geII, e_is, e_isNot, e_ixT, e_ixS, e_ixD, e_inD, e_fLenS, e_fLenT, e_fMax2, e_fMin2, e_fAbs, e_fIntI, e_fIntB, e_fBoolI, e_fBoolB, e_mExcF, e_tryNil, e_tryCons, e_mBM, e_mEqO, e_mNeO, e_fLenO, e_fBoolO, e_mtTO, e_mInO, e_mNotInO, e_mGetO, e_mSortedSet, e_mLstRg1, e_mDic1, e_mDic0, e_miRange3, e_mtYes, putD, List.getElem?_cons_zero, List.getElem?_cons_succ, List.set_cons_zero, List.set_cons_succ, List.map_cons, List.map_nil, List.length_cons, List.length_nil, List.cons_append, List.nil_append, List.append_nil, List.replicate, Nat.reduceAdd, Nat.reduceSub, Nat.reduceLeDiff, Nat.zero_add, true_and, and_true, reduceIte, Bool.false_eq_true, Bool.true_eq_false, Bool.not_true, Bool.not_false, w_mLst, w_mMake, w_miLst, w_gmUnl, w_mComp, w_mComp2, compL_nil, w_compL, w_mSetF, w_addRR]
      exact ul1 w fun S6 w => hq _ (w.sub fun _ _ m => .tail _ (.tail _ m))
theorem bad_list {p : PyData} (m : (i, .lst ds) ∈ L) (ho : ∀ d ∈ ds, ∀ S, Okt S d) (h : ds.all okI = false) (tr : ∀ S : Sto, S[i]? = some (.lst ds) → tree 9 S (.ref i) = some p) (rp : reprOk p = true) (sk : PyData.strOk p.shown = true) : BadM n B L (.ref i) :=
  ⟨p.shown, fun S q x w hq => af_lst w m (fun d hd => ho d hd S) (.inr h) hq, fun S w => (⟨⟨"list", ty_lst (w.get m)⟩, tr S (w.get m), rp, sk⟩ : Odd S (.ref i) p).shw⟩
theorem bad_ints {ns : List Int} {p : PyData} (m : (i, .lst (ns.map D.int)) ∈ L) (hl : ns.length ≤ 2000) (h : asc ns = false) (tr : ∀ S : Sto, S[i]? = some (.lst (ns.map D.int)) → tree 9 S (.ref i) = some p) (rp : reprOk p = true) (sk : PyData.strOk p.shown = true) : BadM n B L (.ref i) :=
  ⟨p.shown, fun S q x w hq => are_firsts_w w m hl fun S' w => by
    rw [h, Bool.and_false]
    exact hq S' w, fun S w => (⟨⟨"list", ty_lst (w.get m)⟩, tr S (w.get m), rp, sk⟩ : Odd S (.ref i) p).shw⟩
theorem bad_flat {p : PyData} {s : String} (ty : ∀ S, tyD S d = some (.b s)) (h1 : s ≠ "list") (h2 : s ≠ "tuple") (tr : ∀ S, tree 9 S d = some p) (rp : reprOk p = true) (sk : PyData.strOk p.shown = true) : BadM n B L d :=
  ⟨p.shown, fun S q x w hq => af_no (ty S) h1 h2 (hq S w), fun S w => (⟨⟨s, ty S⟩, tr S, rp, sk⟩ : Odd S d p).shw⟩
theorem bad_dic (m : (i, .dic [(.int 1, .int 2)]) ∈ L) : BadM n B L (.ref i) :=
  ⟨PyData.shown (.dict [(.int 1, .int 2)]), fun S q x w hq => af_no (s := "dict") (by simp [tyD, w.get m]) (by decide) (by decide) (hq S w), fun S w => ⟨fun {q} h => by
    have e : tree 9 S (.ref i) = none := by
      show ((seqO S i).bind fun ds => (treeL (tree 8 S) ds).map PyData.list) = none
      unfold seqO
      rw [w.get m]
      rfl
    have e2 : dicR S (.ref i) = some (.dict [(.int 1, .int 2)]) := by
      simp [dicR, w.get m, dicP]
    rw [e_fRepr, e, e2]
    exact ⟨by decide +kernel, h⟩, by decide +kernel⟩⟩
theorem bad_range (m : (i, .lst (rangeD 0 2001)) ∈ L) : BadM n B L (.ref i) := by
  refine ⟨PyData.shown (.list (((List.range 2001).map fun i : Nat => (0 : Int) + i).map PyData.int)), fun S q x w hq => af_lst w m (fun d hd => ?_) (.inl (by rw [rangeD_len]; decide)) hq, fun S w => ?_⟩
  · rw [rangeD_map] at hd
    obtain ⟨v, _, rfl⟩ := List.mem_map.mp hd
    exact trivial
  · obtain ⟨z, h1, h2⟩ := shw_range (w.get m)
    rw [h2] at h1
    exact h1
theorem bad_tup : BadM n B L (.tup [.int 0, .non]) :=
  ⟨_, fun S q x w hq => af_tup w (fun d hd => by
    simp only [List.mem_cons, List.not_mem_nil, or_false] at hd
    rcases hd with rfl | rfl <;> exact trivial) (by simp) rfl hq, fun S w => (⟨⟨"tuple", rfl⟩, rfl, by decide +kernel, by decide +kernel⟩ : Odd S (.tup [.int 0, .non]) (.tuple [.int 0, .none])).shw⟩
theorem ul5 (w : W n B [] S) (hq : ∀ S' e3 e4, W n B [] S' → md.nx [c0, c1, some (.ref n), e3, e4] S') : b_law_5 md [c0, c1, some (.ref n), c3, c4] S := by
  rw [e_b_law_5, e_b_law_4, e_b_law_3]
  simp only [e_mNext, e_mSeq, e_mExpr, e_mRet, e_mRetN, e_mIfS, e_mBreak, e_mCont, e_mAsg, e_mPar, e_gmName, e_gmNil, e_gmCons, e_gmTup, e_gmSub, e_mVar, e_mC, e_mOp, e_mtB, e_mtT, e_mtNot, e_mtAnd, e_mtOr, e_mAnd, e_mOr, e_mAndT, e_mOrT, e_mIf, e_mNotB, e_mChain, e_maNil, e_maCons, e_mTup, e_mCall, e_mFld, e_mProp, e_mMeth, e_mUnO, e_mBinO, e_mCallO, e_mCMeth, e_mRaise, e_mTry, e_mFn, e_mNeg, e_mIsiB, e_mIsiO, e_mFor, e_miRange1, e_miRange2, e_miRangeW, e_miZip, e_zpT, e_mIsi2, e_miAny, e_seqT, e_powW, e_mAug, e_addI, e_fTupleT, e_mSl00, e_mSl01, e_mSl10, e_mSl11, e_miTup, e_body, e_addII, e_addIB, e_addSS, e_addTT, e_subII, e_mulII, e_fdivII, e_modII, e_powII, e_ltII, e_leII, e_gtII, e_geII, e_is, e_isNot, e_ixT, e_ixS, e_ixD, e_inD, e_fLenS, e_fLenT, e_fMax2, e_fMin2, e_fAbs, e_fIntI, e_fIntB, e_fBoolI, e_fBoolB, e_mExcF, e_tryNil, e_tryCons, e_mBM, e_mEqO, e_mNeO, e_fLenO, e_fBoolO, e_mtTO, e_mInO, e_mNotInO, e_mGetO, e_mSortedSet, e_mLstRg1, e_mDic1, e_mDic0, e_miRange3, e_mtYes, putD, List.getElem?_cons_zero, List.getElem?_cons_succ, List.set_cons_zero, List.set_cons_succ, List.map_cons, List.map_nil, List.length_cons, List.length_nil, List.cons_append, List.nil_append, List.append_nil, List.replicate, Nat.reduceAdd, Nat.reduceSub, Nat.reduceLeDiff, Nat.zero_add, true_and, and_true, reduceIte, Bool.false_eq_true, Bool.true_eq_false, Bool.not_true, Bool.not_false, w_mLst, w_mMake, w_miLst, w_gmUnl, w_mComp, w_mComp2, compL_nil, w_compL, w_mSetF, w_addRR]
  refine ⟨(sl_pos (by simp)), ?_⟩
  intro a1 S1 e1 e2
  replace w := w.new e1 e2
  refine ⟨(sl_pos (by simp)), ?_⟩
  intro a2 S2 e1 e2
  replace w := w.new e1 e2
  refine ⟨(sl_pos (by simp)), ?_⟩
  intro a3 S3 e1 e2
  replace w := w.new e1 e2
  refine ⟨(sl_pos (by simp)), ?_⟩
  intro a4 S4 e1 e2
  replace w := w.new e1 e2
  refine ⟨(sl_pos (by simp)), ?_⟩
  intro a5 S5 e1 e2
  replace w := w.new e1 e2
  have w6 := w.new (S' := S5 ++ [.dic [(.int 1, .int 2)]]) rfl rfl
  refine ⟨(sl_pos (by simp)), ⟨by decide, by decide⟩, ?_⟩
  have w7 := w6.new (S' := S5 ++ [.dic [(.int 1, .int 2)]] ++ [.lst (rangeD 0 2001)]) rfl rfl
  refine ⟨(sl_pos (by simp)), ?_⟩
  intro a8 S8 e1 e2
  have w8 := w7.new e1 e2
  refine drw_w w8 (by decide) (by decide) fun k S9 k0 k1 w9 => ?_
  obtain ⟨d, md', hd⟩ := atI_mem (ds := [.non, .int 5, .ref a1, .ref a2, .ref a3, .ref a4, .ref a5, .ref S5.length, .tup [.int 0, .non], .ref (S5 ++ [O.dic [(.int 1, .int 2)]]).length]) k0 (by simpa using k1)
  refine ix_ok w9 (List.mem_cons_self ..) hd ?_
  try simp only [e_mNext, e_mSeq, e_mExpr, e_mRet, e_mRetN, e_mIfS, e_mBreak, e_mCont, e_mAsg, e_mPar, e_gmName, e_gmNil, e_gmCons, e_gmTup, e_gmSub, e_mVar, e_mC, e_mOp, e_mtB, e_mtT, e_mtNot, e_mtAnd, e_mtOr, e_mAnd, e_mOr, e_mAndT, e_mOrT, e_mIf, e_mNotB, e_mChain, e_maNil, e_maCons, e_mTup, e_mCall, e_mFld, e_mProp, e_mMeth, e_mUnO, e_mBinO, e_mCallO, e_mCMeth, e_mRaise, e_mTry, e_mFn, e_mNeg, e_mIsiB, e_mIsiO, e_mFor, e_miRange1, e_miRange2, e_miRangeW, e_miZip, e_zpT, e_mIsi2, e_miAny, e_seqT, e_powW, e_mAug, e_addI, e_fTupleT, e_mSl00, e_mSl01, e_mSl10, e_mSl11, e_miTup, e_body, e_addII, e_addIB, e_addSS, e_addTT, e_subII, e_mulII, e_fdivII, e_modII, e_powII, e_ltII, e_leII, e_gtII, e_geII, e_is, e_isNot, e_ixT, e_ixS, e_ixD, e_inD, e_fLenS, e_fLenT, e_fMax2, e_fMin2, e_fAbs, e_fIntI, e_fIntB, e_fBoolI, e_fBoolB, e_mExcF, e_tryNil, e_tryCons, e_mBM, e_mEqO, e_mNeO, e_fLenO, e_fBoolO, e_mtTO, e_mInO, e_mNotInO, e_mGetO, e_mSortedSet, e_mLstRg1, e_mDic1, e_mDic0, e_miRange3, e_mtYes, putD, List.getElem?_cons_zero, List.getElem?_cons_succ, List.set_cons_zero, List.set_cons_succ, List.map_cons, List.map_nil, List.length_cons, List.length_nil, List.cons_append, List.nil_append, List.append_nil, List.replicate, Nat.reduceAdd, Nat.reduceSub, Nat.reduceLeDiff, Nat.zero_add, true_and, and_true, reduceIte, Bool.false_eq_true, Bool.true_eq_false, Bool.not_true, Bool.not_false, w_mLst, w_mMake, w_miLst, w_gmUnl, w_mComp, w_mComp2, compL_nil, w_compL, w_mSetF, w_addRR]
  refine ⟨(sl_pos (by simp)), (sl_pos (by simp)), ?_⟩
  intro a10 S10 e3 e4
  have w10 := w9.new e3 e4
  refine drw_w w10 (by decide) (by decide) fun k2 S11 k20 k21 w11 => ?_
  obtain ⟨e, me', he⟩ := atI_mem (ds := [D.non, .int (-1), .bl true, .str "2", .tup [.int 1]]) k20 (by simpa using k21)
  refine ix_ok w11 (List.mem_cons_self ..) he ?_
  try simp only [e_mNext, e_mSeq, e_mExpr, e_mRet, e_mRetN, e_mIfS, e_mBreak, e_mCont, e_mAsg, e_mPar, e_gmName, e_gmNil, e_gmCons, e_gmTup, e_gmSub, e_mVar, e_mC, e_mOp, e_mtB, e_mtT, e_mtNot, e_mtAnd, e_mtOr, e_mAnd, e_mOr, e_mAndT, e_mOrT, e_mIf, e_mNotB, e_mChain, e_maNil, e_maCons, e_mTup, e_mCall, e_mFld, e_mProp, e_mMeth, e_mUnO, e_mBinO, e_mCallO, e_mCMeth, e_mRaise, e_mTry, e_mFn, e_mNeg, e_mIsiB, e_mIsiO, e_mFor, e_miRange1, e_miRange2, e_miRangeW, e_miZip, e_zpT, e_mIsi2, e_miAny, e_seqT, e_powW, e_mAug, e_addI, e_fTupleT, e_mSl00, e_mSl01, e_mSl10, e_mSl11, e_miTup, e_body, e_addII, e_addIB, e_addSS, e_addTT, e_subII, e_mulII, e_fdivII, e_modII, e_powII, e_ltII, e_leII, e_gtII, e_geII, e_is, e_isNot, e_ixT, e_ixS, e_ixD, e_inD, e_fLenS, e_fLenT, e_fMax2, e_fMin2, e_fAbs, e_fIntI, e_fIntB, e_fBoolI, e_fBoolB, e_mExcF, e_tryNil, e_tryCons, e_mBM, e_mEqO, e_mNeO, e_fLenO, e_fBoolO, e_mtTO, e_mInO, e_mNotInO, e_mGetO, e_mSortedSet, e_mLstRg1, e_mDic1, e_mDic0, e_miRange3, e_mtYes, putD, List.getElem?_cons_zero, List.getElem?_cons_succ, List.set_cons_zero, List.set_cons_succ, List.map_cons, List.map_nil, List.length_cons, List.length_nil, List.cons_append, List.nil_append, List.append_nil, List.replicate, Nat.reduceAdd, Nat.reduceSub, Nat.reduceLeDiff, Nat.zero_add, true_and, and_true, reduceIte, Bool.false_eq_true, Bool.true_eq_false, Bool.not_true, Bool.not_false, w_mLst, w_mMake, w_miLst, w_gmUnl, w_mComp, w_mComp2, compL_nil, w_compL, w_mSetF, w_addRR]
  refine ul2 w11 ?_ ?_ fun S12 w => hq _ _ _ (w.sub fun _ _ m => by cases m)
  · simp only [List.mem_cons, List.not_mem_nil, or_false] at md'
    rcases md' with rfl | rfl | rfl | rfl | rfl | rfl | rfl | rfl | rfl | rfl
    · exact bad_flat (fun _ => rfl) (by decide) (by decide) (fun _ => rfl) (by decide +kernel) (by decide +kernel)
    · exact bad_flat (fun _ => rfl) (by decide) (by decide) (fun _ => rfl) (by decide +kernel) (by decide +kernel)
    · exact bad_ints (ns := [1, 1]) (p := .list [.int 1, .int 1]) (by repeat (first | exact List.Mem.head _ | apply List.Mem.tail)) (by decide) (by decide) (fun S h => by rw [tr_lst h, trL_ints]; rfl) (by decide +kernel) (by decide +kernel)
    · exact bad_ints (ns := [2, 1]) (p := .list [.int 2, .int 1]) (by repeat (first | exact List.Mem.head _ | apply List.Mem.tail)) (by decide) (by decide) (fun S h => by rw [tr_lst h, trL_ints]; rfl) (by decide +kernel) (by decide +kernel)
    · exact bad_list (ds := [.int (-1)]) (p := .list [.int (-1)]) (by repeat (first | exact List.Mem.head _ | apply List.Mem.tail)) (fun d hd S => by
        have e : d = .int (-1) := by simpa using hd
        subst e; exact trivial) (by decide) (fun S h => by simp only [tr_lst h, tr_int, tr_str, tr_bl, tr_non, tr_tup, trL_cons, trL_nil, Option.map_some]) (by decide +kernel) (by decide +kernel)
    · exact bad_list (ds := [.bl true]) (p := .list [.bool true]) (by repeat (first | exact List.Mem.head _ | apply List.Mem.tail)) (fun d hd S => by
        have e : d = .bl true := by simpa using hd
        subst e; exact trivial) (by decide) (fun S h => by simp only [tr_lst h, tr_int, tr_str, tr_bl, tr_non, tr_tup, trL_cons, trL_nil, Option.map_some]) (by decide +kernel) (by decide +kernel)
    · exact bad_list (ds := [.str "1"]) (p := .list [.str "1"]) (by repeat (first | exact List.Mem.head _ | apply List.Mem.tail)) (fun d hd S => by
        have e : d = .str "1" := by simpa using hd
        subst e; exact trivial) (by decide) (fun S h => by simp only [tr_lst h, tr_int, tr_str, tr_bl, tr_non, tr_tup, trL_cons, trL_nil, Option.map_some]) (by decide +kernel) (by decide +kernel)
    · exact bad_dic (by repeat (first | exact List.Mem.head _ | apply List.Mem.tail))
    · exact bad_tup
    · exact bad_range (by repeat (first | exact List.Mem.head _ | apply List.Mem.tail))
  · simp only [List.mem_cons, List.not_mem_nil, or_false] at me'
    rcases me' with rfl | rfl | rfl | rfl | rfl
    · exact ⟨_, fun _ => trivial, .inl rfl, fun S => (⟨⟨_, rfl⟩, rfl, by decide +kernel, by decide +kernel⟩ : Odd S .non .none).shw⟩
    · exact ⟨_, fun _ => trivial, .inr ⟨_, rfl, by decide⟩, fun S => (⟨⟨_, rfl⟩, rfl, by decide +kernel, by decide +kernel⟩ : Odd S (.int (-1)) (.int (-1))).shw⟩
    · exact ⟨_, fun _ => trivial, .inl rfl, fun S => (⟨⟨_, rfl⟩, rfl, by decide +kernel, by decide +kernel⟩ : Odd S (.bl true) (.bool true)).shw⟩
    · exact ⟨_, fun _ => trivial, .inl rfl, fun S => (⟨⟨_, rfl⟩, rfl, by decide +kernel, by decide +kernel⟩ : Odd S (.str "2") (.str "2")).shw⟩
    · exact ⟨_, fun _ => trivial, .inl rfl, fun S => (⟨⟨_, rfl⟩, rfl, by decide +kernel, by decide +kernel⟩ : Odd S (.tup [.int 1]) (.tuple [.int 1])).shw⟩
theorem ul6 (w : W n B [] S) (hq : ∀ S' e3 e4, W n B [] S' → md.nx [c0, c1, some (.ref n), e3, e4] S') : b_law_6 md [c0, c1, some (.ref n), c3, c4] S := by
  rw [e_b_law_6]
  simp only [e_mNext, e_mSeq, e_mExpr, e_mRet, e_mRetN, e_mIfS, e_mBreak, e_mCont, e_mAsg, e_mPar, e_gmName, e_gmNil, e_gmCons, e_gmTup, e_gmSub, e_mVar, e_mC, e_mOp, e_mtB, e_mtT, e_mtNot, e_mtAnd, e_mtOr, e_mAnd, e_mOr, e_mAndT, e_mOrT, e_mIf, e_mNotB, e_mChain, e_maNil, e_maCons, e_mTup, e_mCall, e_mFld, e_mProp, e_mMeth, e_mUnO, e_mBinO, e_mCallO, e_mCMeth, e_mRaise, e_mTry, e_mFn, e_mNeg, e_mIsiB, e_mIsiO, e_mFor, e_miRange1, e_miRange2, e_miRangeW, e_miZip, e_zpT, e_mIsi2, e_miAny, e_seqT, e_powW, e_mAug, e_addI, e_fTupleT, e_mSl00, e_mSl01, e_mSl10, e_mSl11, e_miTup, e_body, e_addII, e_addIB, e_addSS, e_addTT, e_subII, e_mulII, e_fdivII, e_modII, e_powII, e_ltII, e_leII, e_gtII, e_geII, e_is, e_isNot, e_ixT, e_ixS, e_ixD, e_inD, e_fLenS, e_fLenT, e_fMax2, e_fMin2, e_fAbs, e_fIntI, e_fIntB, e_fBoolI, e_fBoolB, e_mExcF, e_tryNil, e_tryCons, e_mBM, e_mEqO, e_mNeO, e_fLenO, e_fBoolO, e_mtTO, e_mInO, e_mNotInO, e_mGetO, e_mSortedSet, e_mLstRg1, e_mDic1, e_mDic0, e_miRange3, e_mtYes, putD, List.getElem?_cons_zero, List.getElem?_cons_succ, List.set_cons_zero, List.set_cons_succ, List.map_cons, List.map_nil, List.length_cons, List.length_nil, List.cons_append, List.nil_append, List.append_nil, List.replicate, Nat.reduceAdd, Nat.reduceSub, Nat.reduceLeDiff, Nat.zero_add, true_and, and_true, reduceIte, Bool.false_eq_true, Bool.true_eq_false, Bool.not_true, Bool.not_false, w_mLst, w_mMake, w_miLst, w_gmUnl, w_mComp, w_mComp2, compL_nil, w_compL, w_mSetF, w_addRR]
  refine per_w w fun S1 w => ?_
  simp only [e_mNext, e_mSeq, e_mExpr, e_mRet, e_mRetN, e_mIfS, e_mBreak, e_mCont, e_mAsg, e_mPar, e_gmName, e_gmNil, e_gmCons, e_gmTup, e_gmSub, e_mVar, e_mC, e_mOp, e_mtB, e_mtT, e_mtNot, e_mtAnd, e_mtOr, e_mAnd, e_mOr, e_mAndT, e_mOrT, e_mIf, e_mNotB, e_mChain, e_maNil, e_maCons, e_mTup, e_mCall, e_mFld, e_mProp, e_mMeth, e_mUnO, e_mBinO, e_mCallO, e_mCMeth, e_mRaise, e_mTry, e_mFn, e_mNeg, e_mIsiB, e_mIsiO, e_mFor, e_miRange1, e_miRange2, e_miRangeW, e_miZip, e_zpT, e_mIsi2, e_miAny, e_seqT, e_powW, e_mAug, e_addI, e_fTupleT, e_mSl00, e_mSl01, e_mSl10, e_mSl11, e_miTup, e_body, e_addII, e_addIB, e_addSS, e_addTT, e_subII, e_mulII, e_fdivII, e_modII, e_powII, e_ltII, e_leII, e_gtII, e_geII, e_is, e_isNot, e_ixT, e_ixS, e_ixD, e_inD, e_fLenS, e_fLenT, e_fMax2, e_fMin2, e_fAbs, e_fIntI, e_fIntB, e_fBoolI, e_fBoolB, e_mExcF, e_tryNil, e_tryCons, e_mBM, e_mEqO, e_mNeO, e_fLenO, e_fBoolO, e_mtTO, e_mInO, e_mNotInO, e_mGetO, e_mSortedSet, e_mLstRg1, e_mDic1, e_mDic0, e_miRange3, e_mtYes, putD, List.getElem?_cons_zero, List.getElem?_cons_succ, List.set_cons_zero, List.set_cons_succ, List.map_cons, List.map_nil, List.length_cons, List.length_nil, List.cons_append, List.nil_append, List.append_nil, List.replicate, Nat.reduceAdd, Nat.reduceSub, Nat.reduceLeDiff, Nat.zero_add, true_and, and_true, reduceIte, Bool.false_eq_true, Bool.true_eq_false, Bool.not_true, Bool.not_false, w_mLst, w_mMake, w_miLst, w_gmUnl, w_mComp, w_mComp2, compL_nil, w_compL, w_mSetF, w_addRR]
  refine finite_w w fun S2 w => ?_
  simp only [e_mNext, e_mSeq, e_mExpr, e_mRet, e_mRetN, e_mIfS, e_mBreak, e_mCont, e_mAsg, e_mPar, e_gmName, e_gmNil, e_gmCons, e_gmTup, e_gmSub, e_mVar, e_mC, e_mOp, e_mtB, e_mtT, e_mtNot, e_mtAnd, e_mtOr, e_mAnd, e_mOr, e_mAndT, e_mOrT, e_mIf, e_mNotB, e_mChain, e_maNil, e_maCons, e_mTup, e_mCall, e_mFld, e_mProp, e_mMeth, e_mUnO, e_mBinO, e_mCallO, e_mCMeth, e_mRaise, e_mTry, e_mFn, e_mNeg, e_mIsiB, e_mIsiO, e_mFor, e_miRange1, e_miRange2, e_miRangeW, e_miZip, e_zpT, e_mIsi2, e_miAny, e_seqT, e_powW, e_mAug, e_addI, e_fTupleT, e_mSl00, e_mSl01, e_mSl10, e_mSl11, e_miTup, e_body, e_addII, e_addIB, e_addSS, e_addTT, e_subII, e_mulII, e_fdivII, e_modII, e_powII, e_ltII, e_leII, e_gtII, e_geII, e_is, e_isNot, e_ixT, e_ixS, e_ixD, e_inD, e_fLenS, e_fLenT, e_fMax2, e_fMin2, e_fAbs, e_fIntI, e_fIntB, e_fBoolI, e_fBoolB, e_mExcF, e_tryNil, e_tryCons, e_mBM, e_mEqO, e_mNeO, e_fLenO, e_fBoolO, e_mtTO, e_mInO, e_mNotInO, e_mGetO, e_mSortedSet, e_mLstRg1, e_mDic1, e_mDic0, e_miRange3, e_mtYes, putD, List.getElem?_cons_zero, List.getElem?_cons_succ, List.set_cons_zero, List.set_cons_succ, List.map_cons, List.map_nil, List.length_cons, List.length_nil, List.cons_append, List.nil_append, List.append_nil, List.replicate, Nat.reduceAdd, Nat.reduceSub, Nat.reduceLeDiff, Nat.zero_add, true_and, and_true, reduceIte, Bool.false_eq_true, Bool.true_eq_false, Bool.not_true, Bool.not_false, w_mLst, w_mMake, w_miLst, w_gmUnl, w_mComp, w_mComp2, compL_nil, w_compL, w_mSetF, w_addRR]
  exact ul5 w hq
theorem ul7 {r : Nat} {ns : List Int} {i : Int} (h0 : S[r]? = some (.frz (ns.map .int))) (hi : 0 ≤ i)
    (h : ∀ S' e2 e3 e4, S'[r]? = some (.frz (ns.map .int)) → (∃ n, Src S' n) → md.nx [some (.ref r), some (.int i), e2, e3, e4] S') :
    b_law_7 md [some (.ref r), some (.int i), c2, c3, c4] S := by
  rw [e_b_law_7]
  simp only [e_mNext, e_mSeq, e_mExpr, e_mRet, e_mRetN, e_mIfS, e_mBreak, e_mCont, e_mAsg, e_mPar, e_gmName, e_gmNil, e_gmCons, e_gmTup, e_gmSub, e_mVar, e_mC, e_mOp, e_mtB, e_mtT, e_mtNot, e_mtAnd, e_mtOr, e_mAnd, e_mOr, e_mAndT, e_mOrT, e_mIf, e_mNotB, e_mChain, e_maNil, e_maCons, e_mTup, e_mCall, e_mFld, e_mProp, e_mMeth, e_mUnO, e_mBinO, e_mCallO, e_mCMeth, e_mRaise, e_mTry, e_mFn, e_mNeg, e_mIsiB, e_mIsiO, e_mFor, e_miRange1, e_miRange2, e_miRangeW, e_miZip, e_zpT, e_mIsi2, e_miAny, e_seqT, e_powW, e_mAug, e_addI, e_fTupleT, e_mSl00, e_mSl01, e_mSl10, e_mSl11, e_miTup, e_body, e_addII, e_addIB, e_addSS, e_addTT, e_subII, e_mulII, e_fdivII, e_modII, e_powII, e_ltII, e_leII, e_gtII, e_geII, e_is, e_isNot, e_ixT, e_ixS, e_ixD, e_inD, e_fLenS, e_fLenT, e_fMax2, e_fMin2, e_fAbs, e_fIntI, e_fIntB, e_fBoolI, e_fBoolB, e_mExcF, e_tryNil, e_tryCons, e_mBM, e_mEqO, e_mNeO, e_fLenO, e_fBoolO, e_mtTO, e_mInO, e_mNotInO, e_mGetO, e_mSortedSet, e_mLstRg1, e_mDic1, e_mDic0, e_miRange3, e_mtYes, putD, List.getElem?_cons_zero, List.getElem?_cons_succ, List.set_cons_zero, List.set_cons_succ, List.map_cons, List.map_nil, List.length_cons, List.length_nil, List.cons_append, List.nil_append, List.append_nil, List.replicate, Nat.reduceAdd, Nat.reduceSub, Nat.reduceLeDiff, Nat.zero_add, true_and, and_true, reduceIte, Bool.false_eq_true, Bool.true_eq_false, Bool.not_true, Bool.not_false, w_mLst, w_mMake, w_miLst, w_gmUnl, w_mComp, w_mComp2, compL_nil, w_compL, w_mSetF, w_addRR]
  have pos := (List.getElem?_eq_some_iff.mp h0).1
  refine source_ok h0 hi fun o s1 => ?_
  have w := W.refl s1
  refine ul6 w fun S' e3 e4 w => ?_
  exact h S' _ _ _ (w.fr.get (Ext.app.get h0) (by omega)) ⟨_, w.src⟩
end
theorem rangeD_nn : ∀ (n : Nat) (lo : Int), 0 ≤ lo → ∀ d ∈ rangeD lo n, ∃ i : Int, d = .int i ∧ 0 ≤ i
  | 0, _, _, d, h => by unfold rangeD at h; simp at h
  | n + 1, lo, h0, d, h => by
    unfold rangeD at h
    rcases List.mem_cons.mp h with h | h
    · exact ⟨lo, h, h0⟩
    · exact rangeD_nn n (lo + 1) (by omega) d h
theorem rangeD_ne {lo : Int} : ∀ {n : Nat}, 0 < n → rangeD lo n ≠ []
  | n + 1, _ => by unfold rangeD; simp
theorem law_pure (ns : List Int) (hlen : ns.length ≤ 63) (_hb : ∀ i ∈ ns, Builtin.Int.intBits i ≤ 1048576) : u_law [.ref 0] [.frz (ns.map D.int)] (fun d _ => d = .bl true) fun _ _ => False := by
  rw [e_u_law, e_b_law]
  simp only [e_mNext, e_mSeq, e_mExpr, e_mRet, e_mRetN, e_mIfS, e_mBreak, e_mCont, e_mAsg, e_mPar, e_gmName, e_gmNil, e_gmCons, e_gmTup, e_gmSub, e_mVar, e_mC, e_mOp, e_mtB, e_mtT, e_mtNot, e_mtAnd, e_mtOr, e_mAnd, e_mOr, e_mAndT, e_mOrT, e_mIf, e_mNotB, e_mChain, e_maNil, e_maCons, e_mTup, e_mLst, e_mCall, e_mFld, e_mProp, e_mMeth, e_mMake, e_mSetF, e_mUnO, e_mBinO, e_mCallO, e_mCMeth, e_mRaise, e_mTry, e_mFn, e_mNeg, e_mIsiB, e_mIsiO, e_mFor, e_miRange1, e_miRange2, e_miRangeW, e_miZip, e_zpT, e_mIsi2, e_miAny, e_seqT, e_powW, e_mAug, e_addI, e_fTupleT, e_mSl00, e_mSl01, e_mSl10, e_mSl11, e_miTup, e_miLst, e_body, e_addII, e_addIB, e_addSS, e_addTT, e_addRR, e_subII, e_mulII, e_fdivII, e_modII, e_powII, e_ltII, e_leII, e_gtII, e_geII, e_is, e_isNot, e_ixT, e_ixR, e_ixS, e_ixD, e_inD, e_isIns, e_fLenS, e_fLenT, e_fLenR, e_fMax2, e_fMin2, e_fAbs, e_fIntI, e_fIntB, e_fBoolI, e_fBoolB, e_mExcF, e_tryNil, e_tryCons, e_mBM, e_append, e_extend, e_gmUnl, e_mEqO, e_mNeO, e_fLenO, e_fBoolO, e_mtTO, e_mInO, e_mNotInO, e_mGetO, e_mComp, e_mComp2, e_mSortedSet, e_mLstRg1, e_mDic1, e_mDic0, e_miRange3, e_mtYes, putD, List.getElem?_cons_zero, List.getElem?_cons_succ, List.set_cons_zero, List.set_cons_succ, List.map_cons, List.map_nil, List.length_cons, List.length_nil, List.cons_append, List.nil_append, List.append_nil, List.replicate, Nat.reduceAdd, Nat.reduceSub, Nat.reduceLeDiff, Nat.zero_add, true_and, and_true, reduceIte, Bool.false_eq_true, Bool.true_eq_false, Bool.not_true, Bool.not_false, seqO]
  refine ⟨?_, ?_⟩
  · simp only [List.length_map]
    split <;> split <;> omega
  refine forL_ind (fun items sd S' => (∀ d ∈ items, ∃ i : Int, d = .int i ∧ 0 ≤ i) ∧ S'[0]? = some (.frz (ns.map D.int)) ∧ (items = [] → ∃ n, Src S' n) ∧ ∃ c1 c2 c3 c4, sd = [some (.ref 0), c1, c2, c3, c4]) ?_ ?_ _ _ _ ⟨rangeD_nn _ _ (by decide), rfl, fun e => absurd e (rangeD_ne (by split <;> split <;> omega)), none, none, none, none, rfl⟩
  · rintro sd S' ⟨_, _, hs, c1, c2, c3, c4, rfl⟩
    refine ⟨trivial, ?_⟩
    obtain ⟨n, s⟩ := hs rfl
    have w := W.refl s
    simp only [e_mNext, e_mSeq, e_mExpr, e_mRet, e_mRetN, e_mIfS, e_mBreak, e_mCont, e_mAsg, e_mPar, e_gmName, e_gmNil, e_gmCons, e_gmTup, e_gmSub, e_mVar, e_mC, e_mOp, e_mtB, e_mtT, e_mtNot, e_mtAnd, e_mtOr, e_mAnd, e_mOr, e_mAndT, e_mOrT, e_mIf, e_mNotB, e_mChain, e_maNil, e_maCons, e_mTup, e_mCall, e_mFld, e_mProp, e_mMeth, e_mUnO, e_mBinO, e_mCallO, e_mCMeth, e_mRaise, e_mTry, e_mFn, e_mNeg, e_mIsiB, e_mIsiO, e_mFor, e_miRange1, e_miRange2, e_miRangeW, e_miZip, e_zpT, e_mIsi2, e_miAny, e_seqT, e_powW, e_mAug, e_addI, e_fTupleT, e_mSl00, e_mSl01, e_mSl10, e_mSl11, e_miTup, e_body, e_addII, e_addIB, e_addSS, e_addTT, e_subII, e_mulII, e_fdivII, e_modII, e_powII, e_ltII, e_leII, e_gtII, e_geII, e_is, e_isNot, e_ixT, e_ixS, e_ixD, e_inD, e_fLenS, e_fLenT, e_fMax2, e_fMin2, e_fAbs, e_fIntI, e_fIntB, e_fBoolI, e_fBoolB, e_mExcF, e_tryNil, e_tryCons, e_mBM, e_mEqO, e_mNeO, e_fLenO, e_fBoolO, e_mtTO, e_mInO, e_mNotInO, e_mGetO, e_mSortedSet, e_mLstRg1, e_mDic1, e_mDic0, e_miRange3, e_mtYes, putD, List.getElem?_cons_zero, List.getElem?_cons_succ, List.set_cons_zero, List.set_cons_succ, List.map_cons, List.map_nil, List.length_cons, List.length_nil, List.cons_append, List.nil_append, List.append_nil, List.replicate, Nat.reduceAdd, Nat.reduceSub, Nat.reduceLeDiff, Nat.zero_add, true_and, and_true, reduceIte, Bool.false_eq_true, Bool.true_eq_false, Bool.not_true, Bool.not_false, w_mLst, w_mMake, w_miLst, w_gmUnl, w_mComp, w_mComp2, compL_nil, w_compL, w_mSetF, w_addRR]
    refine ⟨⟨by decide, by decide⟩, ?_⟩
    have w1 := w.new (S' := S' ++ [.lst (rangeD 0 2000)]) rfl rfl
    rw [rangeD_map] at w1
    intro j S2 ej eS
    subst ej eS
    generalize hf : ((List.range 2000).map fun i : Nat => (0 : Int) + i) = fs at w1
    have h0 : ∀ f ∈ fs, 0 ≤ f := fun f m => by
      rw [← hf] at m
      obtain ⟨a, _, rfl⟩ := List.mem_map.mp m
      omega
    have so : fs.Pairwise (· < ·) := by
      rw [← hf, List.pairwise_map]
      exact List.pairwise_lt_range.imp fun h => by omega
    have lf : fs.length = 2000 := by rw [← hf]; simp
    have key := fun (q : QD) (x : QX) hq => init_w (q := q) (x := x) (p := 0) w1 (List.mem_cons_self ..) (by omega) h0 so (Int.le_refl _) (.inl rfl) hq
    rw [show rangeD 0 (Int.toNat 2000) = fs.map D.int from by rw [← hf]; exact rangeD_map 2000 0]
    refine key _ _ fun S3 gs p hk w2 => ?_
    obtain ⟨rfl, rfl⟩ := hk.fin
    refine ⟨rfl, ?_⟩
    refine ins_ok w2 (List.mem_cons_self ..) ?_
    refine firsts_w w2 (List.mem_cons_self ..) ?_
    simp only [e_mNext, e_mSeq, e_mExpr, e_mRet, e_mRetN, e_mIfS, e_mBreak, e_mCont, e_mAsg, e_mPar, e_gmName, e_gmNil, e_gmCons, e_gmTup, e_gmSub, e_mVar, e_mC, e_mOp, e_mtB, e_mtT, e_mtNot, e_mtAnd, e_mtOr, e_mAnd, e_mOr, e_mAndT, e_mOrT, e_mIf, e_mNotB, e_mChain, e_maNil, e_maCons, e_mTup, e_mCall, e_mFld, e_mProp, e_mMeth, e_mUnO, e_mBinO, e_mCallO, e_mCMeth, e_mRaise, e_mTry, e_mFn, e_mNeg, e_mIsiB, e_mIsiO, e_mFor, e_miRange1, e_miRange2, e_miRangeW, e_miZip, e_zpT, e_mIsi2, e_miAny, e_seqT, e_powW, e_mAug, e_addI, e_fTupleT, e_mSl00, e_mSl01, e_mSl10, e_mSl11, e_miTup, e_body, e_addII, e_addIB, e_addSS, e_addTT, e_subII, e_mulII, e_fdivII, e_modII, e_powII, e_ltII, e_leII, e_gtII, e_geII, e_is, e_isNot, e_ixT, e_ixS, e_ixD, e_inD, e_fLenS, e_fLenT, e_fMax2, e_fMin2, e_fAbs, e_fIntI, e_fIntB, e_fBoolI, e_fBoolB, e_mExcF, e_tryNil, e_tryCons, e_mBM, e_mEqO, e_mNeO, e_fLenO, e_fBoolO, e_mtTO, e_mInO, e_mNotInO, e_mGetO, e_mSortedSet, e_mLstRg1, e_mDic1, e_mDic0, e_miRange3, e_mtYes, putD, List.getElem?_cons_zero, List.getElem?_cons_succ, List.set_cons_zero, List.set_cons_succ, List.map_cons, List.map_nil, List.length_cons, List.length_nil, List.cons_append, List.nil_append, List.append_nil, List.replicate, Nat.reduceAdd, Nat.reduceSub, Nat.reduceLeDiff, Nat.zero_add, true_and, and_true, reduceIte, Bool.false_eq_true, Bool.true_eq_false, Bool.not_true, Bool.not_false, w_mLst, w_mMake, w_miLst, w_gmUnl, w_mComp, w_mComp2, compL_nil, w_compL, w_mSetF, w_addRR, List.length_map, lf, mEq_int', show (((2000 : Nat) : Int) == 2000) = true from rfl]
  · rintro d ds sd S' ⟨hi, h0, hs, c1, c2, c3, c4, rfl⟩ ih
    refine ⟨trivial, ?_⟩
    obtain ⟨i, rfl, hi0⟩ := hi d List.mem_cons_self
    refine ul7 h0 hi0 fun S2 e2 e3 e4 h2 s2 => ?_
    exact ih _ _ ⟨fun y hy => hi y (List.mem_cons_of_mem _ hy), h2, fun _ => s2, _, _, _, _, rfl⟩
end Lw

namespace Lw
open PySem PySem.Spec PyProof.Rows L2
/-! ### the text -/
abbrev top (i : Nat) : Stmt := PySem.Challenge.pw_loopwalks_k08_moments_made.main.body.getD i (.Pass ⟨0, 0, 0, 0⟩)
def bodyOf (s : Stmt) : List Stmt := match s with
  | .ClassDef _ _ _ b _ _ _ _ _ _ _ => b
  | _ => []
abbrev sub (i j : Nat) : Stmt := (bodyOf (top i)).getD j (.Pass ⟨0, 0, 0, 0⟩)
abbrev s__law_source : Stmt := top 19
abbrev d__law_source : Df := ⟨gA "_law_source", "_law_source", "_law_source", defArgs s__law_source, defBody s__law_source, defScope s__law_source, []⟩
abbrev s__law_draw : Stmt := top 20
abbrev d__law_draw : Df := ⟨gA "_law_draw", "_law_draw", "_law_draw", defArgs s__law_draw, defBody s__law_draw, defScope s__law_draw, []⟩
abbrev s__law_some : Stmt := top 23
abbrev d__law_some : Df := ⟨gA "_law_some", "_law_some", "_law_some", defArgs s__law_some, defBody s__law_some, defScope s__law_some, []⟩
abbrev s_is_integer : Stmt := top 8
abbrev d_is_integer : Df := ⟨gA "is_integer", "is_integer", "is_integer", defArgs s_is_integer, defBody s_is_integer, defScope s_is_integer, []⟩
abbrev s_are_firsts : Stmt := top 12
abbrev d_are_firsts : Df := ⟨gA "are_firsts", "are_firsts", "are_firsts", defArgs s_are_firsts, defBody s_are_firsts, defScope s_are_firsts, []⟩
abbrev s_InvalidMoments_init : Stmt := sub 4 0
abbrev d_InvalidMoments_init : Df := ⟨mA "InvalidMoments" "__init__", "__init__", "InvalidMoments.__init__", defArgs s_InvalidMoments_init, defBody s_InvalidMoments_init, defScope s_InvalidMoments_init, []⟩
abbrev s_InvalidNumber_init : Stmt := sub 3 0
abbrev d_InvalidNumber_init : Df := ⟨mA "InvalidNumber" "__init__", "__init__", "InvalidNumber.__init__", defArgs s_InvalidNumber_init, defBody s_InvalidNumber_init, defScope s_InvalidNumber_init, []⟩
abbrev s_check_least : Stmt := top 9
abbrev d_check_least : Df := ⟨gA "check_least", "check_least", "check_least", defArgs s_check_least, defBody s_check_least, defScope s_check_least, []⟩
abbrev s_least_period : Stmt := top 13
abbrev d_least_period : Df := ⟨gA "least_period", "least_period", "least_period", defArgs s_least_period, defBody s_least_period, defScope s_least_period, []⟩
abbrev s_Moments_init : Stmt := sub 17 0
abbrev d_Moments_init : Df := ⟨mA "Moments" "__init__", "__init__", "Moments.__init__", defArgs s_Moments_init, defBody s_Moments_init, defScope s_Moments_init, [.int (0)]⟩
abbrev s__law_least : Stmt := top 25
abbrev d__law_least : Df := ⟨gA "_law_least", "_law_least", "_law_least", defArgs s__law_least, defBody s__law_least, defScope s__law_least, []⟩
abbrev s_Moments_period : Stmt := sub 17 2
abbrev d_Moments_period : Df := ⟨pA "Moments" "period", "period", "Moments.period", defArgs s_Moments_period, defBody s_Moments_period, defScope s_Moments_period, []⟩
abbrev s_Moments_firsts : Stmt := sub 17 1
abbrev d_Moments_firsts : Df := ⟨pA "Moments" "firsts", "firsts", "Moments.firsts", defArgs s_Moments_firsts, defBody s_Moments_firsts, defScope s_Moments_firsts, []⟩
abbrev s_Moments_contains : Stmt := sub 17 5
abbrev d_Moments_contains : Df := ⟨mA "Moments" "__contains__", "__contains__", "Moments.__contains__", defArgs s_Moments_contains, defBody s_Moments_contains, defScope s_Moments_contains, []⟩
abbrev s__law_big : Stmt := top 22
abbrev d__law_big : Df := ⟨gA "_law_big", "_law_big", "_law_big", defArgs s__law_big, defBody s__law_big, defScope s__law_big, []⟩
abbrev s_Moments_eq : Stmt := sub 17 3
abbrev d_Moments_eq : Df := ⟨mA "Moments" "__eq__", "__eq__", "Moments.__eq__", defArgs s_Moments_eq, defBody s_Moments_eq, defScope s_Moments_eq, []⟩
abbrev s_Moments_bool : Stmt := sub 17 4
abbrev d_Moments_bool : Df := ⟨mA "Moments" "__bool__", "__bool__", "Moments.__bool__", defArgs s_Moments_bool, defBody s_Moments_bool, defScope s_Moments_bool, []⟩
abbrev s__law_periodic_right : Stmt := top 26
abbrev d__law_periodic_right : Df := ⟨gA "_law_periodic_right", "_law_periodic_right", "_law_periodic_right", defArgs s__law_periodic_right, defBody s__law_periodic_right, defScope s__law_periodic_right, []⟩
abbrev s__law_finite_right : Stmt := top 27
abbrev d__law_finite_right : Df := ⟨gA "_law_finite_right", "_law_finite_right", "_law_finite_right", defArgs s__law_finite_right, defBody s__law_finite_right, defScope s__law_finite_right, []⟩
abbrev s__law_said : Stmt := top 24
abbrev d__law_said : Df := ⟨gA "_law_said", "_law_said", "_law_said", defArgs s__law_said, defBody s__law_said, defScope s__law_said, []⟩
abbrev s_law : Stmt := top 28
abbrev d_law : Df := ⟨gA "law", "law", "law", defArgs s_law, defBody s_law, defScope s_law, []⟩
abbrev fn : List Df := [d__law_source, d__law_draw, d__law_some, d_is_integer, d_are_firsts, d_InvalidMoments_init, d_InvalidNumber_init, d_check_least, d_least_period, d_Moments_init, d__law_least, d_Moments_period, d_Moments_firsts, d_Moments_contains, d__law_big, d_Moments_eq, d_Moments_bool, d__law_periodic_right, d__law_finite_right, d__law_said, d_law]
abbrev fa : List He.Fa := [.free "len", .free "min", .free "max", .free "range", .glo "_law_source", .glo "_law_draw", .free "sorted", .free "set", .glo "_law_some", .free "list", .free "isinstance", .glo "Moments", .free "tuple", .free "int", .free "bool", .glo "is_integer", .free "all", .free "zip", .glo "are_firsts", .glo "WalkError", .glo "InvalidMoments", .glo "InvalidNumber", .glo "check_least", .noat "Moments" "own_firsts", .noat "Moments" "own_period", .glo "least_period", .mkr "Moments", .glo "_law_least", .glo "_law_big", .glo "_law_periodic_right", .glo "_law_finite_right", .free "repr", .glo "_law_said", .glo "law"]
abbrev ts : List Tb := []
abbrev xs : List Xf := [xOwn "Moments", xIsB CLS "list", xIsB CLS "tuple", xCon "MAX_FIRSTS" (.int (2000)), xIsB CLS "int", xIsB CLS "bool", xBaseO "WalkError" "ValueError.__init__", xExc "InvalidMoments" "ValueError.__new__" [.type "ValueError", .type "Exception", .type "BaseException", .type "object"], xIni "InvalidMoments", xNo "InvalidMoments" "given", xExc "InvalidNumber" "ValueError.__new__" [.type "ValueError", .type "Exception", .type "BaseException", .type "object"], xIni "InvalidNumber", xNo "InvalidNumber" "given", xProp "Moments" "firsts", xProp "Moments" "period", xOp "Moments" "__contains__", xIsO CLS "Moments", xOp "Moments" "__eq__", xEqF CLS "Moments", xNeF "Moments", xOp "Moments" "__bool__", xExm [("InvalidMoments", true), ("InvalidNumber", false)] "InvalidMoments", xExR "InvalidMoments" "given", xExm [("InvalidMoments", false), ("InvalidNumber", true)] "InvalidNumber", xExR "InvalidNumber" "given"]
abbrev Cy := Ctx fa fn ts xs
theorem kB_int : ∀ s ∈ kinds, kitB s "int" = some (isB "int" s) := by decide +kernel
theorem kB_bool : ∀ s ∈ kinds, kitB s "bool" = some (isB "bool" s) := by decide +kernel
theorem kB_str : ∀ s ∈ kinds, kitB s "str" = some (isB "str" s) := by decide +kernel
theorem kB_list : ∀ s ∈ kinds, kitB s "list" = some (isB "list" s) := by decide +kernel
theorem kB_tuple : ∀ s ∈ kinds, kitB s "tuple" = some (isB "tuple" s) := by decide +kernel
section
variable {w : World} {K : PySem.W.Frag} {mg : Mg}
theorem ownG (Y : Cy w K mg) : ∀ k ∈ CLS, mg k = some (.ref (He.ga K k)) := by
  intro k hk
  simp only [CLS, List.mem_cons, List.not_mem_nil, or_false] at hk
  rcases hk with rfl
  · exact Y.glo 11
theorem owns (Y : Cy w K mg) : Owns K mg CLS := ⟨fun k hk => by
  have e := ownG Y k hk
  simp only [CLS, List.mem_cons, List.not_mem_nil, or_false] at hk
  rcases hk with rfl
  · exact ⟨_, e, xOwn_ok (Y.x 0)⟩⟩
end
section
variable {P : Program} {w : World} {K : PySem.W.Frag} {mg : Mg} {base : Heap}
theorem gx__law_said {w : World} {K : PySem.W.Frag} {mg : Mg} (Y : Cy w K mg) (tab : List (Str × Bool)) (ht : tab.map (·.1) = (["InvalidMoments", "InvalidNumber"] : List Str)) : ∀ q ∈ tab, mg q.1 = some (.ref (He.ga K q.1)) := by
  intro q hq
  have hm := List.mem_map_of_mem (f := (·.1)) hq
  rw [ht] at hm
  simp only [List.mem_cons, List.not_mem_nil, or_false] at hm
  rcases hm with e | e
  · rw [e]; exact (Y.glo 20)
  · rw [e]; exact (Y.glo 21)
theorem ok__law_source (Y : Cy w K mg) : FdG P w K mg base 2 (He.ga K "_law_source") u__law_source [] := by
  obtain ⟨fd, F⟩ := Y.def_ 0 (d := d__law_source)
  have sc : FnScope ["_law_script", "_law_k", "_law_cell", "_law_number", "_law_seed"] ["_law_script", "_law_k"] (defScope s__law_source) := ⟨rfl, rfl, rfl, by decide +kernel, rfl, by decide +kernel, by decide +kernel⟩
  rw [e_u__law_source]
  refine fdg_of F (okD2 F sc rfl rfl fun cdv A outer s H E tk po co => ?_) fun _ _ _ _ _ _ us hl => match us, hl with | [_, _], _ => rfl
  rw [e_b__law_source, e_b__law_source_4, e_b__law_source_3, e_b__law_source_2, e_b__law_source_1]
  exact (mss_cons (ms_set (i := 2) sc.nd rfl (Or.inl rfl) me_int) (mss_cons (ms_if (mt_cmp om_lt (me_var 1 (pv 1)) (me_fnB (cm_len rfl) rfl (Y.free 0) PyProof.Rows.Boot.len (ma_cons (me_var 0 (pv 0)) ma_nil)) (nomark _)) (mss_one (ms_set (i := 2) sc.nd rfl (Or.inl rfl) (me_ix (im_seq rfl) (me_var 0 (pv 0)) (me_var 1 (pv 1)) (fun _ _ => rfl)))) mss_nil) (mss_cons (ms_set (i := 3) sc.nd rfl (Or.inl rfl) (me_fnB (cm_max2 rfl) rfl (Y.free 2) PyProof.Rows.Boot.max (ma_cons (me_var 2 (pv 2)) (ma_cons (me_op (om_sub) (me_neg me_int) (me_var 2 (pv 2))) ma_nil)))) (mss_cons (ms_set (i := 4) sc.nd rfl (Or.inl rfl) (me_op (om_mod) (me_op (om_add rfl) (me_op (om_add rfl) (me_op (om_mul) (me_op (om_mod) (me_var 3 (pv 3)) me_int) me_int) (me_op (om_mul) me_int (me_var 1 (pv 1)))) me_int) me_int)) (mss_cons (ms_if (mt_cmp om_lt (me_var 3 (pv 3)) (me_op (om_pow) me_int me_int) (nomark _)) (mss_one (ms_set (i := 3) sc.nd rfl (Or.inl rfl) me_int)) mss_nil) (mss_one (ms_ret (me_lst (ma_cons (me_var 3 (pv 3)) (ma_cons (me_var 4 (pv 4)) ma_nil))))))))))
theorem ok__law_draw (Y : Cy w K mg) : FdG P w K mg base 2 (He.ga K "_law_draw") u__law_draw [] := by
  obtain ⟨fd, F⟩ := Y.def_ 1 (d := d__law_draw)
  have sc : FnScope ["_law_source_here", "_law_amount", "_law_digit"] ["_law_source_here", "_law_amount"] (defScope s__law_draw) := ⟨rfl, rfl, rfl, by decide +kernel, rfl, by decide +kernel, by decide +kernel⟩
  rw [e_u__law_draw]
  refine fdg_of F (okD2 F sc rfl rfl fun cdv A outer s H E tk po co => ?_) fun _ _ _ _ _ _ us hl => match us, hl with | [_, _], _ => rfl
  rw [e_b__law_draw, e_b__law_draw_3, e_b__law_draw_2, e_b__law_draw_1]
  exact (mss_cons (ms_if (mt_cmp om_gt (me_ix (im_seq rfl) (me_var 0 (pv 0)) me_int (fun _ _ => rfl)) me_int (nomark _)) (mss_cons (ms_set (i := 2) sc.nd rfl (Or.inl rfl) (me_op (om_mod) (me_ix (im_seq rfl) (me_var 0 (pv 0)) me_int (fun _ _ => rfl)) (me_var 1 (pv 1)))) (mss_cons (ms_asg (me_op (om_fdiv) (me_ix (im_seq rfl) (me_var 0 (pv 0)) me_int (fun _ _ => rfl)) (me_var 1 (pv 1))) (gm_sub (me_var 0 (pv 0)) me_int)) (mss_one (ms_ret (me_var 2 (pv 2)))))) mss_nil) (mss_cons (ms_asg (me_op (om_mod) (me_op (om_add rfl) (me_op (om_mul) (me_ix (im_seq rfl) (me_var 0 (pv 0)) me_int (fun _ _ => rfl)) me_int) me_int) me_int) (gm_sub (me_var 0 (pv 0)) me_int)) (mss_one (ms_ret (me_op (om_mod) (me_op (om_fdiv) (me_op (om_mod) (me_op (om_mul) (me_ix (im_seq rfl) (me_var 0 (pv 0)) me_int (fun _ _ => rfl)) (me_ix (im_seq rfl) (me_var 0 (pv 0)) me_int (fun _ _ => rfl))) me_int) me_int) (me_var 1 (pv 1)))))))
theorem ok__law_some (Y : Cy w K mg) : FdG P w K mg base 3 (He.ga K "_law_some") u__law_some [] := by
  obtain ⟨fd, F⟩ := Y.def_ 2 (d := d__law_some)
  have sc : FnScope ["_law_source_here", "_law_limit", "_law_most", "_law_found", "_law_attempt"] ["_law_source_here", "_law_limit", "_law_most"] (defScope s__law_some) := ⟨rfl, rfl, rfl, by decide +kernel, rfl, by decide +kernel, by decide +kernel⟩
  rw [e_u__law_some]
  refine fdg_of F (okD2 F sc rfl rfl fun cdv A outer s H E tk po co => ?_) fun _ _ _ _ _ _ us hl => match us, hl with | [_, _, _], _ => rfl
  rw [e_b__law_some]
  exact (mss_cons (ms_setLc (i := 3) (own := [("_law_attempt", 4)]) rfl sc.nd rfl rfl (sw_true rfl rfl rfl (by decide +kernel)) (pi_mrange1 (fun ha => pi_range1 rfl (Y.free 3) ha) (ma_cons (me_call ((ok__law_draw Y).fn (by decide)) co rfl (Y.glo 5) (ma_cons (me_var 0 (pv 0)) (ma_cons (me_var 2 (pv 2)) ma_nil))) ma_nil)) (blkOk_by (N := ["_law_source_here", "_law_limit", "_law_most", "_law_found", "_law_attempt"]) (sc := defScope s__law_some) (by decide +kernel)) (only_name (by decide)) le_name (fun _ _ _ _ _ => (pg_name (i := 4) sc.nd rfl (by first | exact Or.inl rfl | exact Or.inr rfl))) (fun _ _ _ _ _ => mts_nil) (fun _ _ _ _ _ => (me_call ((ok__law_draw Y).fn (by decide)) (co.blk _ _ _ _ _) rfl (Y.glo 5) (ma_cons (me_var 0 (pv 0)) (ma_cons (me_var 1 (pv 1)) ma_nil))))) (mss_one (ms_ret (me_sortedSet rfl rfl rfl (Y.free 6) rfl (Y.free 7) (me_var 3 (pv 3))))))
theorem ok_is_integer (Y : Cy w K mg) : FdG P w K mg base 2 (He.ga K "is_integer") u_is_integer [] := by
  obtain ⟨fd, F⟩ := Y.def_ 3 (d := d_is_integer)
  have sc : FnScope ["obj"] ["obj"] (defScope s_is_integer) := ⟨rfl, rfl, rfl, by decide +kernel, rfl, by decide +kernel, by decide +kernel⟩
  rw [e_u_is_integer]
  refine fdg_of F (okD2 F sc rfl rfl fun cdv A outer s H E tk po co => ?_) fun _ _ _ _ _ _ us hl => match us, hl with | [_], _ => rfl
  rw [e_b_is_integer]
  exact (mss_one (ms_ret (me_and (me_isiB rfl (Y.free 10) PyProof.Rows.Boot.isinstance rfl (Y.free 13) PyProof.Rows.Boot.int (me_var 0 (pv 0)) rfl rfl (owns Y) kB_int (xIsB_ok (Y.x 4) (ownG Y))) (me_one (me_notT rfl (me_isiB rfl (Y.free 10) PyProof.Rows.Boot.isinstance rfl (Y.free 14) PyProof.Rows.Boot.bool (me_var 0 (pv 0)) rfl rfl (owns Y) kB_bool (xIsB_ok (Y.x 5) (ownG Y))))))))
theorem ok_are_firsts (Y : Cy w K mg) : FdG P w K mg base 3 (He.ga K "are_firsts") u_are_firsts [] := by
  obtain ⟨fd, F⟩ := Y.def_ 4 (d := d_are_firsts)
  have sc : FnScope ["obj", "moment", "one", "other"] ["obj"] (defScope s_are_firsts) := ⟨rfl, rfl, rfl, by decide +kernel, rfl, by decide +kernel, by decide +kernel⟩
  rw [e_u_are_firsts]
  refine fdg_of F (okD2 F sc rfl rfl fun cdv A outer s H E tk po co => ?_) fun _ _ _ _ _ _ us hl => match us, hl with | [_], _ => rfl
  rw [e_b_are_firsts, e_b_are_firsts_1]
  exact (mss_cons (ms_if (PW.pt (mw_or (mt_not (mt_val (me_isi2 rfl (Y.free 10) PyProof.Rows.Boot.isinstance rfl (Y.free 9) PyProof.Rows.Boot.list rfl (Y.free 12) PyProof.Rows.Boot.tuple (me_var 0 (pv 0)) rfl rfl (owns Y) kB_list (xIsB_ok (Y.x 1) (ownG Y)) kB_tuple (xIsB_ok (Y.x 2) (ownG Y))))) (mw_or1 (mt_cmp om_gt (me_fnB (cm_len rfl) rfl (Y.free 0) PyProof.Rows.Boot.len (ma_cons (me_var 0 (pv 0)) ma_nil)) (me_con rfl (Y.con  3)) (nomark _))))) (mss_one (ms_ret me_bl)) mss_nil) (mss_cons (ms_if (mt_not (mt_val (me_fnB (cm_all rfl rfl) rfl (Y.free 16) (by decide +kernel) (ma_cons (me_lc (own := [("moment", 1)]) rfl sc.nd (pi_many rfl (me_var 0 (pv 0))) (blkOk_by (N := ["obj", "moment", "one", "other"]) (sc := defScope s_are_firsts) (by decide +kernel)) (only_name (by decide)) le_name (fun _ _ _ _ _ => (pg_name (i := 1) sc.nd rfl (by first | exact Or.inl rfl | exact Or.inr rfl))) (fun _ _ _ _ _ => mts_nil) (fun _ _ _ _ _ => (me_and (me_call ((ok_is_integer Y).fn (by decide)) (co.blk _ _ _ _ _) rfl (Y.glo 15) (ma_cons (me_var 1 (pv 1)) ma_nil)) (me_one (me_cmp om_ge (me_var 1 (pv 1)) me_int (nomark _)))))) ma_nil)))) (mss_one (ms_ret me_bl)) mss_nil) (mss_one (ms_ret (me_fnB (cm_all rfl rfl) rfl (Y.free 16) (by decide +kernel) (ma_cons (me_lc (own := [("one", 2), ("other", 3)]) rfl sc.nd (pi_mzip rfl (fun ha => RZ.pi_zipA rfl (Y.free 17) ha) (ma_cons (me_var 0 (pv 0)) (ma_cons (me_slice rfl (me_var 0 (pv 0)) (.some me_int) .none) ma_nil))) (blkOk_by (N := ["obj", "moment", "one", "other"]) (sc := defScope s_are_firsts) (by decide +kernel)) (only_tup (only_cons (only_name (by decide)) (only_cons (only_name (by decide)) only_nil))) (le_tup rfl (le_cons le_name (le_cons le_name le_nil))) (fun _ _ _ _ _ => (pg_tup rfl (pgs_cons (pg_name (i := 2) sc.nd rfl (by first | exact Or.inl rfl | exact Or.inr rfl)) (pgs_cons (pg_name (i := 3) sc.nd rfl (by first | exact Or.inl rfl | exact Or.inr rfl)) pgs_nil)))) (fun _ _ _ _ _ => mts_nil) (fun _ _ _ _ _ => (me_cmp om_lt (me_var 2 (pv 2)) (me_var 3 (pv 3)) (nomark _)))) ma_nil))))))
theorem x_InvalidMoments (Y : Cy w K mg) : XClsG P w K mg base "InvalidMoments" (He.ga K "InvalidMoments") ["given"] := by
  obtain ⟨fd, F⟩ := Y.def_ 5 (d := d_InvalidMoments_init)
  have TC : ExC K "ValueError" "ValueError.__new__" "ValueError.__init__" [.type "ValueError", .type "Exception", .type "BaseException", .type "object"] (He.ga K "InvalidMoments") := xExc_ok eb_ValueError (Y.x 7)
  have sc : FnScope ["self", "given"] ["self", "given"] (defScope s_InvalidMoments_init) := ⟨rfl, rfl, rfl, by decide +kernel, rfl, by decide +kernel, by decide +kernel⟩
  refine xcls1 (tx := "the object is not a list of moments") TC (Y.glo 20) (Y.x 8) F sc (fun cdv A outer s H E => ?_) fun _ _ _ _ _ _ us hl => match us, hl with | [_, _], _ => rfl
  exact pss_cons (ps_expr (pe_eini TC (xBaseO_ok (mg := mg) (bn := "WalkError") (ini := "ValueError.__init__") (Y.x 6) (Y.glo 19)) rfl (by decide) (pa_cons (pv 0) (pa_cons pe_str pa_nil)))) (pss_one (ps_est TC (xNo_ok (Y.x 9)) (pv 0) (pv 1)))
theorem x_InvalidNumber (Y : Cy w K mg) : XClsG P w K mg base "InvalidNumber" (He.ga K "InvalidNumber") ["given"] := by
  obtain ⟨fd, F⟩ := Y.def_ 6 (d := d_InvalidNumber_init)
  have TC : ExC K "ValueError" "ValueError.__new__" "ValueError.__init__" [.type "ValueError", .type "Exception", .type "BaseException", .type "object"] (He.ga K "InvalidNumber") := xExc_ok eb_ValueError (Y.x 10)
  have sc : FnScope ["self", "given"] ["self", "given"] (defScope s_InvalidNumber_init) := ⟨rfl, rfl, rfl, by decide +kernel, rfl, by decide +kernel, by decide +kernel⟩
  refine xcls1 (tx := "the object is not a number in range") TC (Y.glo 21) (Y.x 11) F sc (fun cdv A outer s H E => ?_) fun _ _ _ _ _ _ us hl => match us, hl with | [_, _], _ => rfl
  exact pss_cons (ps_expr (pe_eini TC (xBaseO_ok (mg := mg) (bn := "WalkError") (ini := "ValueError.__init__") (Y.x 6) (Y.glo 19)) rfl (by decide) (pa_cons (pv 0) (pa_cons pe_str pa_nil)))) (pss_one (ps_est TC (xNo_ok (Y.x 12)) (pv 0) (pv 1)))
theorem ok_check_least (Y : Cy w K mg) : FdG P w K mg base 3 (He.ga K "check_least") u_check_least [] := by
  obtain ⟨fd, F⟩ := Y.def_ 7 (d := d_check_least)
  have sc : FnScope ["obj", "least"] ["obj", "least"] (defScope s_check_least) := ⟨rfl, rfl, rfl, by decide +kernel, rfl, by decide +kernel, by decide +kernel⟩
  rw [e_u_check_least]
  refine fdg_of F (okD2 F sc rfl rfl fun cdv A outer s H E tk po co => ?_) fun _ _ _ _ _ _ us hl => match us, hl with | [_, _], _ => rfl
  rw [e_b_check_least]
  exact (mss_one (ms_if (PW.pt (mw_or (mt_not (mt_val (me_call ((ok_is_integer Y).fn (by decide)) co rfl (Y.glo 15) (ma_cons (me_var 0 (pv 0)) ma_nil)))) (mw_or1 (mt_cmp om_lt (me_var 0 (pv 0)) (me_var 1 (pv 1)) (nomark _))))) (mss_one (ms_raise (x_InvalidNumber Y).x rfl (co.mono (by decide)) rfl (ma_cons (me_var 0 (pv 0)) ma_nil))) mss_nil))
theorem ok_least_period (Y : Cy w K mg) : FdG P w K mg base 2 (He.ga K "least_period") u_least_period [] := by
  obtain ⟨fd, F⟩ := Y.def_ 8 (d := d_least_period)
  have sc : FnScope ["firsts", "period", "parts", "least", "few", "part", "moment"] ["firsts", "period"] (defScope s_least_period) := ⟨rfl, rfl, rfl, by decide +kernel, rfl, by decide +kernel, by decide +kernel⟩
  rw [e_u_least_period]
  refine fdg_of F (okD2 F sc rfl rfl fun cdv A outer s H E tk po co => ?_) fun _ _ _ _ _ _ us hl => match us, hl with | [_, _], _ => rfl
  rw [e_b_least_period, e_b_least_period_4, e_b_least_period_3, e_b_least_period_2, e_b_least_period_1]
  exact (mss_cons (ms_for po rfl (pi_mrange3 (fun ha => pi_range3 rfl (Y.free 3) ha) (ma_cons (me_fnB (cm_len rfl) rfl (Y.free 0) PyProof.Rows.Boot.len (ma_cons (me_var 0 (pv 0)) ma_nil)) (ma_cons me_int (ma_cons (me_neg me_int) ma_nil)))) (gm_name (pg_name sc.nd rfl (Or.inl rfl))) (mss_one (ms_if (PW.pt (mw_and (mt_cmp (om_eq rfl co.u64) (me_op (om_mod) (me_fnB (cm_len rfl) rfl (Y.free 0) PyProof.Rows.Boot.len (ma_cons (me_var 0 (pv 0)) ma_nil)) (me_var 2 (pv 2))) me_int (nomark _)) (mw_and1 (mt_cmp (om_eq rfl co.u64) (me_op (om_mod) (me_var 1 (pv 1)) (me_var 2 (pv 2))) me_int (nomark _))))) (mss_cons (ms_set (i := 3) sc.nd rfl (Or.inr rfl) (me_op (om_fdiv) (me_var 1 (pv 1)) (me_var 2 (pv 2)))) (mss_cons (ms_set (i := 4) sc.nd rfl (Or.inr rfl) (me_slice rfl (me_var 0 (pv 0)) .none (.some (me_op (om_fdiv) (me_fnB (cm_len rfl) rfl (Y.free 0) PyProof.Rows.Boot.len (ma_cons (me_var 0 (pv 0)) ma_nil)) (me_var 2 (pv 2)))))) (mss_one (ms_if (mt_cmp (om_eq rfl co.u64) (me_var 0 (pv 0)) (me_fnT (cm_tuple rfl) rfl (Y.free 12) PyProof.Rows.Boot.tuple (ma_cons (me_lc2 (own := [("part", 5), ("moment", 6)]) (vs1 := [6]) rfl sc.nd (pi_mrange1 (fun ha => pi_range1 rfl (Y.free 3) ha) (ma_cons (me_var 2 (pv 2)) ma_nil)) (blkOk_by (N := ["firsts", "period", "parts", "least", "few", "part", "moment"]) (sc := defScope s_least_period) (by decide +kernel)) (by decide) (only_name (by decide)) le_name (only_name (by decide)) le_name (fun _ _ _ _ _ => (pg_name (i := 5) sc.nd rfl (by first | exact Or.inl rfl | exact Or.inr rfl))) (fun _ _ _ _ _ => mts_nil) (fun _ _ _ _ _ => (pi_many rfl (me_var 4 (pv 4)))) (fun _ _ _ _ _ => (pg_name (i := 6) sc.nd rfl (by first | exact Or.inl rfl | exact Or.inr rfl))) (fun _ _ _ _ _ => mts_nil) (fun _ _ _ _ _ => (me_op (om_add rfl) (me_var 6 (pv 6)) (me_op (om_mul) (me_var 5 (pv 5)) (me_var 3 (pv 3)))))) ma_nil)) (nomark _)) (mss_one (ms_ret (me_var 3 (pv 3)))) mss_nil)))) mss_nil))) (mss_one (ms_ret (me_var 1 (pv 1)))))
theorem okg_Moments_init {fd : FuncData} (Y : Cy w K mg) (F : FunD K d_Moments_init.name d_Moments_init.qual d_Moments_init.params d_Moments_init.body d_Moments_init.scope (d_Moments_init.dvs K) [] (d_Moments_init.at_ K) fd) : FnG P w K mg base 4 (He.ma K (He.ga K "Moments") "__init__") fd ["self", "firsts", "period"] (spOf K mg u_Moments_init) := by
  have sc : FnScope ["self", "firsts", "period", "moment"] ["self", "firsts", "period"] (defScope s_Moments_init) := ⟨rfl, rfl, rfl, by decide +kernel, rfl, by decide +kernel, by decide +kernel⟩
  rw [e_u_Moments_init]
  refine okD2 F sc rfl rfl fun cdv A outer s H E tk po co => ?_
  rw [e_b_Moments_init, e_b_Moments_init_6, e_b_Moments_init_5, e_b_Moments_init_4, e_b_Moments_init_3, e_b_Moments_init_2, e_b_Moments_init_1]
  exact (mss_cons (ms_if (mt_not (mt_val (me_call ((ok_are_firsts Y).fn (by decide)) co rfl (Y.glo 18) (ma_cons (me_var 1 (pv 1)) ma_nil)))) (mss_one (ms_raise (x_InvalidMoments Y).x rfl (co.mono (by decide)) rfl (ma_cons (me_var 1 (pv 1)) ma_nil))) mss_nil) (mss_cons (ms_expr (me_call ((ok_check_least Y).fn (by decide)) co rfl (Y.glo 22) (ma_cons (me_var 2 (pv 2)) (ma_cons me_int ma_nil)))) (mss_cons (ms_if (PW.pt (mw_and (mt_cmp om_gt (me_var 2 (pv 2)) me_int (nomark _)) (mw_and1 (mt_not (mt_val (me_fnB (cm_all rfl rfl) rfl (Y.free 16) (by decide +kernel) (ma_cons (me_lc (own := [("moment", 3)]) rfl sc.nd (pi_many rfl (me_var 1 (pv 1))) (blkOk_by (N := ["self", "firsts", "period", "moment"]) (sc := defScope s_Moments_init) (by decide +kernel)) (only_name (by decide)) le_name (fun _ _ _ _ _ => (pg_name (i := 3) sc.nd rfl (by first | exact Or.inl rfl | exact Or.inr rfl))) (fun _ _ _ _ _ => mts_nil) (fun _ _ _ _ _ => (me_cmp om_lt (me_var 3 (pv 3)) (me_var 2 (pv 2)) (nomark _)))) ma_nil))))))) (mss_one (ms_raise (x_InvalidMoments Y).x rfl (co.mono (by decide)) rfl (ma_cons (me_var 1 (pv 1)) ma_nil))) mss_nil) (mss_cons (ms_setf (me_var 0 (pv 0)) (me_fnT (cm_tuple rfl) rfl (Y.free 12) PyProof.Rows.Boot.tuple (ma_cons (me_var 1 (pv 1)) ma_nil)) (Y.glo 11) (xOwn_ok (Y.x 0)).cl (He.noat_ok (Y.fact 23))) (mss_cons (ms_setf (me_var 0 (pv 0)) (me_ifx (mt_cmp (om_eq rfl co.u64) (me_fnB (cm_len rfl) rfl (Y.free 0) PyProof.Rows.Boot.len (ma_cons (me_var 1 (pv 1)) ma_nil)) me_int (nomark _)) me_int (me_var 2 (pv 2))) (Y.glo 11) (xOwn_ok (Y.x 0)).cl (He.noat_ok (Y.fact 24))) (mss_one (ms_if (mt_cmp om_gt (me_fld (me_var 0 (pv 0)) (Y.glo 11) (xOwn_ok (Y.x 0)).cl (He.noat_ok (Y.fact 24))) me_int (nomark _)) (mss_cons (ms_setf (me_var 0 (pv 0)) (me_call ((ok_least_period Y).fn (by decide)) co rfl (Y.glo 25) (ma_cons (me_fld (me_var 0 (pv 0)) (Y.glo 11) (xOwn_ok (Y.x 0)).cl (He.noat_ok (Y.fact 23))) (ma_cons (me_var 2 (pv 2)) ma_nil))) (Y.glo 11) (xOwn_ok (Y.x 0)).cl (He.noat_ok (Y.fact 24))) (mss_one (ms_setf (me_var 0 (pv 0)) (me_fnT (cm_tuple rfl) rfl (Y.free 12) PyProof.Rows.Boot.tuple (ma_cons (me_lc (own := [("moment", 3)]) rfl sc.nd (pi_many rfl (me_var 1 (pv 1))) (blkOk_by (N := ["self", "firsts", "period", "moment"]) (sc := defScope s_Moments_init) (by decide +kernel)) (only_name (by decide)) le_name (fun _ _ _ _ _ => (pg_name (i := 3) sc.nd rfl (by first | exact Or.inl rfl | exact Or.inr rfl))) (fun _ _ _ _ _ => (mts_one (mt_cmp om_lt (me_var 3 (pv 3)) (me_fld (me_var 0 (pv 0)) (Y.glo 11) (xOwn_ok (Y.x 0)).cl (He.noat_ok (Y.fact 24))) (nomark _)))) (fun _ _ _ _ _ => (me_var 3 (pv 3)))) ma_nil)) (Y.glo 11) (xOwn_ok (Y.x 0)).cl (He.noat_ok (Y.fact 23))))) mss_nil)))))))
theorem ok_Moments_init_2 (Y : Cy w K mg) : FdG P w K mg base 4 (He.ma K (He.ga K "Moments") "__init__") u_Moments_init [.int (0)] := by
  obtain ⟨fd, F⟩ := Y.def_ 9 (d := d_Moments_init)
  exact fdg_of1 F (okg_Moments_init Y F) 2 0 (List.cons_ne_nil _ _) rfl (fun _ _ => (.cons (.int _) .nil)) fun _ _ _ _ _ _ _ us its hu hi => match us, hu, its, hi with | [_, _], _, [_], _ => ⟨_, rfl, rfl⟩
theorem ok_Moments_init_3 (Y : Cy w K mg) : FdG P w K mg base 4 (He.ma K (He.ga K "Moments") "__init__") u_Moments_init [] := by
  obtain ⟨fd, F⟩ := Y.def_ 9 (d := d_Moments_init)
  exact fdg_of1 F (okg_Moments_init Y F) 3 1 (List.cons_ne_nil _ _) rfl (fun _ _ => .nil) fun _ _ _ _ _ _ _ us its hu hi => match us, hu, its, hi with | [_, _, _], _, [_], _ => ⟨_, rfl, rfl⟩
theorem ok__law_least (Y : Cy w K mg) : FdG P w K mg base 2 (He.ga K "_law_least") u__law_least [] := by
  obtain ⟨fd, F⟩ := Y.def_ 10 (d := d__law_least)
  have sc : FnScope ["_law_some_here", "_law_step", "_law_least_here", "_law_moment"] ["_law_some_here", "_law_step"] (defScope s__law_least) := ⟨rfl, rfl, rfl, by decide +kernel, rfl, by decide +kernel, by decide +kernel⟩
  rw [e_u__law_least]
  refine fdg_of F (okD2 F sc rfl rfl fun cdv A outer s H E tk po co => ?_) fun _ _ _ _ _ _ us hl => match us, hl with | [_, _], _ => rfl
  rw [e_b__law_least, e_b__law_least_2, e_b__law_least_1]
  exact (mss_cons (ms_for po rfl (pi_mrange2 (fun ha => pi_range2 rfl (Y.free 3) ha) (ma_cons me_int (ma_cons (me_op (om_add rfl) (me_var 1 (pv 1)) me_int) ma_nil))) (gm_name (pg_name sc.nd rfl (Or.inr rfl))) (mss_one (ms_if (mt_cmp (om_eq rfl co.u64) (me_op (om_mod) (me_var 1 (pv 1)) (me_var 2 (pv 2))) me_int (nomark _)) (mss_one (ms_if (mt_cmp (om_eq rfl co.u64) (me_sortedSet rfl rfl rfl (Y.free 6) rfl (Y.free 7) (me_lc (own := [("_law_moment", 3)]) rfl sc.nd (pi_mlst rfl (me_var 0 (pv 0))) (blkOk_by (N := ["_law_some_here", "_law_step", "_law_least_here", "_law_moment"]) (sc := defScope s__law_least) (by decide +kernel)) (only_name (by decide)) le_name (fun _ _ _ _ _ => (pg_name (i := 3) sc.nd rfl (by first | exact Or.inl rfl | exact Or.inr rfl))) (fun _ _ _ _ _ => mts_nil) (fun _ _ _ _ _ => (me_op (om_mod) (me_op (om_add rfl) (me_var 3 (pv 3)) (me_var 2 (pv 2))) (me_var 1 (pv 1)))))) (me_var 0 (pv 0)) (nomark _)) (mss_one (ms_ret (me_var 2 (pv 2)))) mss_nil)) mss_nil))) (mss_one (ms_ret me_int)))
theorem ok_Moments_period (Y : Cy w K mg) : FdG P w K mg base 2 (pA "Moments" "period" K) u_Moments_period [] := by
  obtain ⟨fd, F⟩ := Y.def_ 11 (d := d_Moments_period)
  have sc : FnScope ["self"] ["self"] (defScope s_Moments_period) := ⟨rfl, rfl, rfl, by decide +kernel, rfl, by decide +kernel, by decide +kernel⟩
  rw [e_u_Moments_period]
  refine fdg_of F (okD2 F sc rfl rfl fun cdv A outer s H E tk po co => ?_) fun _ _ _ _ _ _ us hl => match us, hl with | [_], _ => rfl
  rw [e_b_Moments_period]
  exact (mss_one (ms_ret (me_fld (me_var 0 (pv 0)) (Y.glo 11) (xOwn_ok (Y.x 0)).cl (He.noat_ok (Y.fact 24)))))
theorem ok_Moments_firsts (Y : Cy w K mg) : FdG P w K mg base 2 (pA "Moments" "firsts" K) u_Moments_firsts [] := by
  obtain ⟨fd, F⟩ := Y.def_ 12 (d := d_Moments_firsts)
  have sc : FnScope ["self"] ["self"] (defScope s_Moments_firsts) := ⟨rfl, rfl, rfl, by decide +kernel, rfl, by decide +kernel, by decide +kernel⟩
  rw [e_u_Moments_firsts]
  refine fdg_of F (okD2 F sc rfl rfl fun cdv A outer s H E tk po co => ?_) fun _ _ _ _ _ _ us hl => match us, hl with | [_], _ => rfl
  rw [e_b_Moments_firsts]
  exact (mss_one (ms_ret (me_fld (me_var 0 (pv 0)) (Y.glo 11) (xOwn_ok (Y.x 0)).cl (He.noat_ok (Y.fact 23)))))
theorem ok_Moments_contains (Y : Cy w K mg) : FdG P w K mg base 3 (He.ma K (He.ga K "Moments") "__contains__") u_Moments_contains [] := by
  obtain ⟨fd, F⟩ := Y.def_ 13 (d := d_Moments_contains)
  have sc : FnScope ["self", "obj"] ["self", "obj"] (defScope s_Moments_contains) := ⟨rfl, rfl, rfl, by decide +kernel, rfl, by decide +kernel, by decide +kernel⟩
  rw [e_u_Moments_contains]
  refine fdg_of F (okD2 F sc rfl rfl fun cdv A outer s H E tk po co => ?_) fun _ _ _ _ _ _ us hl => match us, hl with | [_, _], _ => rfl
  rw [e_b_Moments_contains]
  exact (mss_cons (ms_if (PW.pt (mw_or (mt_not (mt_val (me_call ((ok_is_integer Y).fn (by decide)) co rfl (Y.glo 15) (ma_cons (me_var 1 (pv 1)) ma_nil)))) (mw_or1 (mt_cmp om_lt (me_var 1 (pv 1)) me_int (nomark _))))) (mss_one (ms_ret me_bl)) mss_nil) (mss_one (ms_ret (me_cmp (om_in rfl co.u65) (me_ifx (mt_cmp (om_eq rfl co.u64) (me_fld (me_var 0 (pv 0)) (Y.glo 11) (xOwn_ok (Y.x 0)).cl (He.noat_ok (Y.fact 24))) me_int (nomark _)) (me_var 1 (pv 1)) (me_op (om_mod) (me_var 1 (pv 1)) (me_fld (me_var 0 (pv 0)) (Y.glo 11) (xOwn_ok (Y.x 0)).cl (He.noat_ok (Y.fact 24))))) (me_fld (me_var 0 (pv 0)) (Y.glo 11) (xOwn_ok (Y.x 0)).cl (He.noat_ok (Y.fact 23))) (by with_unfolding_all rfl)))))
theorem ok__law_big (Y : Cy w K mg) : FdG P w K mg base 3 (He.ga K "_law_big") u__law_big [] := by
  obtain ⟨fd, F⟩ := Y.def_ 14 (d := d__law_big)
  have sc : FnScope ["_law_source_here", "_law_digits", "_law_number", "_law_attempt"] ["_law_source_here"] (defScope s__law_big) := ⟨rfl, rfl, rfl, by decide +kernel, rfl, by decide +kernel, by decide +kernel⟩
  rw [e_u__law_big]
  refine fdg_of F (okD2 F sc rfl rfl fun cdv A outer s H E tk po co => ?_) fun _ _ _ _ _ _ us hl => match us, hl with | [_], _ => rfl
  rw [e_b__law_big, e_b__law_big_3, e_b__law_big_2, e_b__law_big_1]
  exact (mss_cons (ms_set (i := 1) sc.nd rfl (Or.inl rfl) (me_ix (im_seq rfl) (me_lst (ma_cons me_int (ma_cons me_int (ma_cons me_int (ma_cons me_int ma_nil))))) (me_call ((ok__law_draw Y).fn (by decide)) co rfl (Y.glo 5) (ma_cons (me_var 0 (pv 0)) (ma_cons me_int ma_nil))) (fun _ _ => rfl))) (mss_cons (ms_set (i := 2) sc.nd rfl (Or.inl rfl) (me_op (om_add rfl) (me_call ((ok__law_draw Y).fn (by decide)) co rfl (Y.glo 5) (ma_cons (me_var 0 (pv 0)) (ma_cons me_int ma_nil))) me_int)) (mss_cons (ms_for po rfl (pi_mrange1 (fun ha => pi_range1 rfl (Y.free 3) ha) (ma_cons (me_op (om_sub) (me_var 1 (pv 1)) me_int) ma_nil)) (gm_name (pg_name sc.nd rfl (Or.inl rfl))) (mss_one (ms_set (i := 2) sc.nd rfl (Or.inl rfl) (me_op (om_add rfl) (me_op (om_mul) me_int (me_var 2 (pv 2))) (me_call ((ok__law_draw Y).fn (by decide)) co rfl (Y.glo 5) (ma_cons (me_var 0 (pv 0)) (ma_cons me_int ma_nil))))))) (mss_one (ms_ret (me_var 2 (pv 2)))))))
theorem ok_Moments_eq (Y : Cy w K mg) : FdG P w K mg base 2 (He.ma K (He.ga K "Moments") "__eq__") u_Moments_eq [] := by
  obtain ⟨fd, F⟩ := Y.def_ 15 (d := d_Moments_eq)
  have sc : FnScope ["self", "other"] ["self", "other"] (defScope s_Moments_eq) := ⟨rfl, rfl, rfl, by decide +kernel, rfl, by decide +kernel, by decide +kernel⟩
  rw [e_u_Moments_eq]
  refine fdg_of F (okD2 F sc rfl rfl fun cdv A outer s H E tk po co => ?_) fun _ _ _ _ _ _ us hl => match us, hl with | [_, _], _ => rfl
  rw [e_b_Moments_eq]
  exact (mss_cons (ms_if (mt_not (mt_val (me_isiO rfl (Y.free 10) PyProof.Rows.Boot.isinstance rfl (Y.glo 11) (me_var 1 (pv 1)) rfl rfl (owns Y) (xIsO_ok (Y.x 16) (ownG Y)).1 (xIsO_ok (Y.x 16) (ownG Y)).2))) (mss_one (ms_ret me_bl)) mss_nil) (mss_one (ms_ret (me_and (me_cmp (om_eq rfl co.u64) (me_fld (me_var 0 (pv 0)) (Y.glo 11) (xOwn_ok (Y.x 0)).cl (He.noat_ok (Y.fact 23))) (me_fld (me_var 1 (pv 1)) (Y.glo 11) (xOwn_ok (Y.x 0)).cl (He.noat_ok (Y.fact 23))) (nomark _)) (me_one (me_cmp (om_eq rfl co.u64) (me_fld (me_var 0 (pv 0)) (Y.glo 11) (xOwn_ok (Y.x 0)).cl (He.noat_ok (Y.fact 24))) (me_fld (me_var 1 (pv 1)) (Y.glo 11) (xOwn_ok (Y.x 0)).cl (He.noat_ok (Y.fact 24))) (nomark _)))))))
theorem ok_Moments_bool (Y : Cy w K mg) : FdG P w K mg base 2 (He.ma K (He.ga K "Moments") "__bool__") u_Moments_bool [] := by
  obtain ⟨fd, F⟩ := Y.def_ 16 (d := d_Moments_bool)
  have sc : FnScope ["self"] ["self"] (defScope s_Moments_bool) := ⟨rfl, rfl, rfl, by decide +kernel, rfl, by decide +kernel, by decide +kernel⟩
  rw [e_u_Moments_bool]
  refine fdg_of F (okD2 F sc rfl rfl fun cdv A outer s H E tk po co => ?_) fun _ _ _ _ _ _ us hl => match us, hl with | [_], _ => rfl
  rw [e_b_Moments_bool]
  exact (mss_one (ms_ret (me_fnT (cm_bool) rfl (Y.free 14) PyProof.Rows.Boot.bool (ma_cons (me_fnB (cm_len rfl) rfl (Y.free 0) PyProof.Rows.Boot.len (ma_cons (me_fld (me_var 0 (pv 0)) (Y.glo 11) (xOwn_ok (Y.x 0)).cl (He.noat_ok (Y.fact 23))) ma_nil)) ma_nil))))
theorem ok__law_periodic_right (Y : Cy w K mg) : FdG P w K mg base 6 (He.ga K "_law_periodic_right") u__law_periodic_right [] := by
  obtain ⟨fd, F⟩ := Y.def_ 17 (d := d__law_periodic_right)
  have sc : FnScope ["_law_source_here", "_law_least_here", "_law_parts", "_law_few", "_law_some_here", "_law_part", "_law_held", "_law_moments", "_law_step", "_law_moment", "_law_great"] ["_law_source_here"] (defScope s__law_periodic_right) := ⟨rfl, rfl, rfl, by decide +kernel, rfl, by decide +kernel, by decide +kernel⟩
  rw [e_u__law_periodic_right]
  refine fdg_of F (okD2 F sc rfl rfl fun cdv A outer s H E tk po co => ?_) fun _ _ _ _ _ _ us hl => match us, hl with | [_], _ => rfl
  rw [e_b__law_periodic_right, e_b__law_periodic_right_14, e_b__law_periodic_right_13, e_b__law_periodic_right_12, e_b__law_periodic_right_11, e_b__law_periodic_right_10, e_b__law_periodic_right_9, e_b__law_periodic_right_8, e_b__law_periodic_right_7, e_b__law_periodic_right_6, e_b__law_periodic_right_5, e_b__law_periodic_right_4, e_b__law_periodic_right_3, e_b__law_periodic_right_2, e_b__law_periodic_right_1]
  exact (mss_cons (ms_asg (me_tup (ma_cons (me_op (om_add rfl) me_int (me_call ((ok__law_draw Y).fn (by decide)) co rfl (Y.glo 5) (ma_cons (me_var 0 (pv 0)) (ma_cons me_int ma_nil)))) (ma_cons (me_op (om_add rfl) me_int (me_call ((ok__law_draw Y).fn (by decide)) co rfl (Y.glo 5) (ma_cons (me_var 0 (pv 0)) (ma_cons me_int ma_nil)))) ma_nil))) (gm_tup2 (gms_cons (gm_name (pg_name sc.nd rfl (Or.inr rfl))) (gms_cons (gm_name (pg_name sc.nd rfl (Or.inl rfl))) gms_nil)))) (mss_cons (ms_set (i := 3) sc.nd rfl (Or.inl rfl) (me_call ((ok__law_some Y).fn (by decide)) co rfl (Y.glo 8) (ma_cons (me_var 0 (pv 0)) (ma_cons (me_var 1 (pv 1)) (ma_cons me_int ma_nil))))) (mss_cons (ms_set (i := 4) sc.nd rfl (Or.inl rfl) (me_fnT (cm_list rfl) rfl (Y.free 9) PyProof.Rows.Boot.list (ma_cons (me_var 3 (pv 3)) ma_nil))) (mss_cons (ms_for po rfl (pi_mrange2 (fun ha => pi_range2 rfl (Y.free 3) ha) (ma_cons me_int (ma_cons (me_var 2 (pv 2)) ma_nil))) (gm_name (pg_name sc.nd rfl (Or.inr rfl))) (mss_one (ms_set (i := 4) sc.nd rfl (Or.inl rfl) (me_op (om_add rfl) (me_var 4 (pv 4)) (me_lc (own := [("_law_moment", 9)]) rfl sc.nd (pi_mlst rfl (me_var 3 (pv 3))) (blkOk_by (N := ["_law_source_here", "_law_least_here", "_law_parts", "_law_few", "_law_some_here", "_law_part", "_law_held", "_law_moments", "_law_step", "_law_moment", "_law_great"]) (sc := defScope s__law_periodic_right) (by decide +kernel)) (only_name (by decide)) le_name (fun _ _ _ _ _ => (pg_name (i := 9) sc.nd rfl (by first | exact Or.inl rfl | exact Or.inr rfl))) (fun _ _ _ _ _ => mts_nil) (fun _ _ _ _ _ => (me_op (om_add rfl) (me_var 9 (pv 9)) (me_op (om_mul) (me_var 1 (pv 1)) (me_var 5 (pv 5)))))))))) (mss_cons (ms_set (i := 6) sc.nd rfl (Or.inr rfl) (me_fnT (cm_list rfl) rfl (Y.free 9) PyProof.Rows.Boot.list (ma_cons (me_var 4 (pv 4)) ma_nil))) (mss_cons (ms_set (i := 7) sc.nd rfl (Or.inr rfl) (me_make (He.mkr_ok (Y.fact 26)) ((ok_Moments_init_3 Y).fn (by decide)) co rfl (Y.glo 11) (ma_cons (me_var 4 (pv 4)) (ma_cons (me_op (om_mul) (me_var 1 (pv 1)) (me_var 2 (pv 2))) ma_nil)))) (mss_cons (ms_expr (me_bm PySem.F.plainAttrs_list PySem.F.slot_list_append PySem.F.type_list_append mm_append rfl (me_var 4 (pv 4)) (ma_cons (me_op (om_pow) me_int me_int) ma_nil))) (mss_cons (ms_set (i := 8) sc.nd rfl (Or.inr rfl) (me_ifx (mt_cmp (om_ne rfl co.u64) (me_var 6 (pv 6)) (me_lst ma_nil) (nomark _)) (me_call ((ok__law_least Y).fn (by decide)) co rfl (Y.glo 27) (ma_cons (me_var 6 (pv 6)) (ma_cons (me_op (om_mul) (me_var 1 (pv 1)) (me_var 2 (pv 2))) ma_nil))) me_int)) (mss_cons (ms_if (mt_cmp (om_ne rfl co.u64) (me_lst (ma_cons (me_prop (me_var 7 (pv 7)) (Y.glo 11) (xOwn_ok (Y.x 0)).cl (xProp_ok (Y.x 14)) ((ok_Moments_period Y).fn (by decide)) co) (ma_cons (me_prop (me_var 7 (pv 7)) (Y.glo 11) (xOwn_ok (Y.x 0)).cl (xProp_ok (Y.x 13)) ((ok_Moments_firsts Y).fn (by decide)) co) ma_nil))) (me_lst (ma_cons (me_var 8 (pv 8)) (ma_cons (me_fnT (cm_tuple rfl) rfl (Y.free 12) PyProof.Rows.Boot.tuple (ma_cons (me_lc (own := [("_law_moment", 9)]) rfl sc.nd (pi_mlst rfl (me_var 6 (pv 6))) (blkOk_by (N := ["_law_source_here", "_law_least_here", "_law_parts", "_law_few", "_law_some_here", "_law_part", "_law_held", "_law_moments", "_law_step", "_law_moment", "_law_great"]) (sc := defScope s__law_periodic_right) (by decide +kernel)) (only_name (by decide)) le_name (fun _ _ _ _ _ => (pg_name (i := 9) sc.nd rfl (by first | exact Or.inl rfl | exact Or.inr rfl))) (fun _ _ _ _ _ => (mts_one (PW.pt (mw_or (mt_cmp (om_eq rfl (co.blk _ _ _ _ _).u64) (me_var 8 (pv 8)) me_int (nomark _)) (mw_or1 (mt_cmp om_lt (me_var 9 (pv 9)) (me_var 8 (pv 8)) (nomark _))))))) (fun _ _ _ _ _ => (me_var 9 (pv 9)))) ma_nil)) ma_nil))) (nomark _)) (mss_one (ms_ret me_bl)) mss_nil) (mss_cons (ms_for po rfl (pi_mrange1 (fun ha => pi_range1 rfl (Y.free 3) ha) (ma_cons (me_op (om_mul) (me_op (om_mul) me_int (me_var 1 (pv 1))) (me_var 2 (pv 2))) ma_nil)) (gm_name (pg_name sc.nd rfl (Or.inl rfl))) (mss_one (ms_if (mt_cmp (om_ne rfl co.u64) (me_cmp (om_inO (xOp_ok (Y.x 15) (Y.glo 11) ((ok_Moments_contains Y).fn (by decide))) co) (me_var 9 (pv 9)) (me_var 7 (pv 7)) (by with_unfolding_all rfl)) (me_cmp (om_in rfl co.u65) (me_op (om_mod) (me_var 9 (pv 9)) (me_op (om_mul) (me_var 1 (pv 1)) (me_var 2 (pv 2)))) (me_var 6 (pv 6)) (by with_unfolding_all rfl)) (nomark _)) (mss_one (ms_ret me_bl)) mss_nil))) (mss_cons (ms_set (i := 10) sc.nd rfl (Or.inr rfl) (me_op (om_mul) (me_op (om_mul) (me_var 1 (pv 1)) (me_var 2 (pv 2))) (me_call ((ok__law_big Y).fn (by decide)) co rfl (Y.glo 28) (ma_cons (me_var 0 (pv 0)) ma_nil)))) (mss_cons (ms_if (mt_cmp (om_ne rfl co.u64) (me_lc (own := [("_law_moment", 9)]) rfl sc.nd (pi_mrange1 (fun ha => pi_range1 rfl (Y.free 3) ha) (ma_cons (me_var 1 (pv 1)) ma_nil)) (blkOk_by (N := ["_law_source_here", "_law_least_here", "_law_parts", "_law_few", "_law_some_here", "_law_part", "_law_held", "_law_moments", "_law_step", "_law_moment", "_law_great"]) (sc := defScope s__law_periodic_right) (by decide +kernel)) (only_name (by decide)) le_name (fun _ _ _ _ _ => (pg_name (i := 9) sc.nd rfl (by first | exact Or.inl rfl | exact Or.inr rfl))) (fun _ _ _ _ _ => mts_nil) (fun _ _ _ _ _ => (me_cmp (om_inO (xOp_ok (Y.x 15) (Y.glo 11) ((ok_Moments_contains Y).fn (by decide))) (co.blk _ _ _ _ _)) (me_op (om_add rfl) (me_var 10 (pv 10)) (me_var 9 (pv 9))) (me_var 7 (pv 7)) (by with_unfolding_all rfl)))) (me_lc (own := [("_law_moment", 9)]) rfl sc.nd (pi_mrange1 (fun ha => pi_range1 rfl (Y.free 3) ha) (ma_cons (me_var 1 (pv 1)) ma_nil)) (blkOk_by (N := ["_law_source_here", "_law_least_here", "_law_parts", "_law_few", "_law_some_here", "_law_part", "_law_held", "_law_moments", "_law_step", "_law_moment", "_law_great"]) (sc := defScope s__law_periodic_right) (by decide +kernel)) (only_name (by decide)) le_name (fun _ _ _ _ _ => (pg_name (i := 9) sc.nd rfl (by first | exact Or.inl rfl | exact Or.inr rfl))) (fun _ _ _ _ _ => mts_nil) (fun _ _ _ _ _ => (me_cmp (om_in rfl (co.blk _ _ _ _ _).u65) (me_var 9 (pv 9)) (me_var 6 (pv 6)) (by with_unfolding_all rfl)))) (nomark _)) (mss_one (ms_ret me_bl)) mss_nil) (mss_cons (ms_if (PW.pt (mw_or (mt_neO (xOp_ok (Y.x 17) (Y.glo 11) ((ok_Moments_eq Y).fn (by decide))) (owns Y) (xEqF_ok (Y.x 18) (ownG Y)) (xNeF_ok (Y.x 19)) co (me_var 7 (pv 7)) (me_make (He.mkr_ok (Y.fact 26)) ((ok_Moments_init_3 Y).fn (by decide)) co rfl (Y.glo 11) (ma_cons (me_fnT (cm_tuple rfl) rfl (Y.free 12) PyProof.Rows.Boot.tuple (ma_cons (me_var 6 (pv 6)) ma_nil)) (ma_cons (me_op (om_mul) (me_var 1 (pv 1)) (me_var 2 (pv 2))) ma_nil)))) (mw_or1 (mt_cmp (om_ne rfl co.u64) (me_fnT (cm_boolO (xOp_ok (Y.x 20) (Y.glo 11) ((ok_Moments_bool Y).fn (by decide))) co) rfl (Y.free 14) PyProof.Rows.Boot.bool (ma_cons (me_var 7 (pv 7)) ma_nil)) (me_cmp (om_ne rfl co.u64) (me_var 6 (pv 6)) (me_lst ma_nil) (nomark _)) (nomark _))))) (mss_one (ms_ret me_bl)) mss_nil) (mss_one (ms_ret (me_or (me_cmp (om_eq rfl co.u64) (me_var 6 (pv 6)) (me_lst ma_nil) (nomark _)) (me_one (me_neO (xOp_ok (Y.x 17) (Y.glo 11) ((ok_Moments_eq Y).fn (by decide))) (owns Y) (xEqF_ok (Y.x 18) (ownG Y)) (xNeF_ok (Y.x 19)) co (me_var 7 (pv 7)) (me_make (He.mkr_ok (Y.fact 26)) ((ok_Moments_init_2 Y).fn (by decide)) co rfl (Y.glo 11) (ma_cons (me_var 6 (pv 6)) ma_nil))))))))))))))))))))
theorem ok__law_finite_right (Y : Cy w K mg) : FdG P w K mg base 6 (He.ga K "_law_finite_right") u__law_finite_right [] := by
  obtain ⟨fd, F⟩ := Y.def_ 18 (d := d__law_finite_right)
  have sc : FnScope ["_law_source_here", "_law_some_here", "_law_moments", "_law_moment", "_law_odd"] ["_law_source_here"] (defScope s__law_finite_right) := ⟨rfl, rfl, rfl, by decide +kernel, rfl, by decide +kernel, by decide +kernel⟩
  rw [e_u__law_finite_right]
  refine fdg_of F (okD2 F sc rfl rfl fun cdv A outer s H E tk po co => ?_) fun _ _ _ _ _ _ us hl => match us, hl with | [_], _ => rfl
  rw [e_b__law_finite_right, e_b__law_finite_right_4, e_b__law_finite_right_3, e_b__law_finite_right_2, e_b__law_finite_right_1]
  exact (mss_cons (ms_set (i := 1) sc.nd rfl (Or.inr rfl) (me_sortedSet rfl rfl rfl (Y.free 6) rfl (Y.free 7) (me_op (om_add rfl) (me_call ((ok__law_some Y).fn (by decide)) co rfl (Y.glo 8) (ma_cons (me_var 0 (pv 0)) (ma_cons me_int (ma_cons me_int ma_nil)))) (me_slice rfl (me_lst (ma_cons (me_call ((ok__law_big Y).fn (by decide)) co rfl (Y.glo 28) (ma_cons (me_var 0 (pv 0)) ma_nil)) ma_nil)) .none (.some (me_call ((ok__law_draw Y).fn (by decide)) co rfl (Y.glo 5) (ma_cons (me_var 0 (pv 0)) (ma_cons me_int ma_nil)))))))) (mss_cons (ms_set (i := 2) sc.nd rfl (Or.inr rfl) (me_make (He.mkr_ok (Y.fact 26)) ((ok_Moments_init_2 Y).fn (by decide)) co rfl (Y.glo 11) (ma_cons (me_var 1 (pv 1)) ma_nil))) (mss_cons (ms_if (PW.pt (mw_or (mt_cmp (om_ne rfl co.u64) (me_lst (ma_cons (me_prop (me_var 2 (pv 2)) (Y.glo 11) (xOwn_ok (Y.x 0)).cl (xProp_ok (Y.x 14)) ((ok_Moments_period Y).fn (by decide)) co) (ma_cons (me_prop (me_var 2 (pv 2)) (Y.glo 11) (xOwn_ok (Y.x 0)).cl (xProp_ok (Y.x 13)) ((ok_Moments_firsts Y).fn (by decide)) co) ma_nil))) (me_lst (ma_cons me_int (ma_cons (me_fnT (cm_tuple rfl) rfl (Y.free 12) PyProof.Rows.Boot.tuple (ma_cons (me_var 1 (pv 1)) ma_nil)) ma_nil))) (nomark _)) (mw_or1 (mt_cmp (om_ne rfl co.u64) (me_fnT (cm_boolO (xOp_ok (Y.x 20) (Y.glo 11) ((ok_Moments_bool Y).fn (by decide))) co) rfl (Y.free 14) PyProof.Rows.Boot.bool (ma_cons (me_var 2 (pv 2)) ma_nil)) (me_cmp (om_ne rfl co.u64) (me_var 1 (pv 1)) (me_lst ma_nil) (nomark _)) (nomark _))))) (mss_one (ms_ret me_bl)) mss_nil) (mss_cons (ms_if (mt_cmp (om_ne rfl co.u64) (me_lc (own := [("_law_moment", 3)]) rfl sc.nd (pi_mrange1 (fun ha => pi_range1 rfl (Y.free 3) ha) (ma_cons me_int ma_nil)) (blkOk_by (N := ["_law_source_here", "_law_some_here", "_law_moments", "_law_moment", "_law_odd"]) (sc := defScope s__law_finite_right) (by decide +kernel)) (only_name (by decide)) le_name (fun _ _ _ _ _ => (pg_name (i := 3) sc.nd rfl (by first | exact Or.inl rfl | exact Or.inr rfl))) (fun _ _ _ _ _ => (mts_one (mt_cmp (om_ne rfl (co.blk _ _ _ _ _).u64) (me_cmp (om_inO (xOp_ok (Y.x 15) (Y.glo 11) ((ok_Moments_contains Y).fn (by decide))) (co.blk _ _ _ _ _)) (me_var 3 (pv 3)) (me_var 2 (pv 2)) (by with_unfolding_all rfl)) (me_cmp (om_in rfl (co.blk _ _ _ _ _).u65) (me_var 3 (pv 3)) (me_var 1 (pv 1)) (by with_unfolding_all rfl)) (nomark _)))) (fun _ _ _ _ _ => (me_var 3 (pv 3)))) (me_lst ma_nil) (nomark _)) (mss_one (ms_ret me_bl)) mss_nil) (mss_cons (ms_if (PW.pt (mw_or (mt_eqO (xOp_ok (Y.x 17) (Y.glo 11) ((ok_Moments_eq Y).fn (by decide))) (owns Y) (xEqF_ok (Y.x 18) (ownG Y)) co (me_var 2 (pv 2)) (me_fnT (cm_tuple rfl) rfl (Y.free 12) PyProof.Rows.Boot.tuple (ma_cons (me_var 1 (pv 1)) ma_nil))) (mw_or (mt_neO (xOp_ok (Y.x 17) (Y.glo 11) ((ok_Moments_eq Y).fn (by decide))) (owns Y) (xEqF_ok (Y.x 18) (ownG Y)) (xNeF_ok (Y.x 19)) co (me_var 2 (pv 2)) (me_make (He.mkr_ok (Y.fact 26)) ((ok_Moments_init_3 Y).fn (by decide)) co rfl (Y.glo 11) (ma_cons (me_var 1 (pv 1)) (ma_cons me_int ma_nil)))) (mw_or1 (mt_eqO (xOp_ok (Y.x 17) (Y.glo 11) ((ok_Moments_eq Y).fn (by decide))) (owns Y) (xEqF_ok (Y.x 18) (ownG Y)) co (me_var 2 (pv 2)) (me_make (He.mkr_ok (Y.fact 26)) ((ok_Moments_init_2 Y).fn (by decide)) co rfl (Y.glo 11) (ma_cons (me_op (om_add rfl) (me_var 1 (pv 1)) (me_lst (ma_cons (me_op (om_pow) me_int me_int) ma_nil))) ma_nil))))))) (mss_one (ms_ret me_bl)) mss_nil) (mss_one (ms_ret (me_cmp (om_eq rfl co.u64) (me_lc (own := [("_law_odd", 4)]) rfl sc.nd (pi_mlst rfl (me_lst (ma_cons me_non (ma_cons me_str (ma_cons (me_neg me_int) (ma_cons me_bl (ma_cons (me_tup (ma_cons me_int ma_nil)) (ma_cons (me_lst (ma_cons me_int ma_nil)) ma_nil)))))))) (blkOk_by (N := ["_law_source_here", "_law_some_here", "_law_moments", "_law_moment", "_law_odd"]) (sc := defScope s__law_finite_right) (by decide +kernel)) (only_name (by decide)) le_name (fun _ _ _ _ _ => (pg_name (i := 4) sc.nd rfl (by first | exact Or.inl rfl | exact Or.inr rfl))) (fun _ _ _ _ _ => (mts_one (mt_cmp (om_inO (xOp_ok (Y.x 15) (Y.glo 11) ((ok_Moments_contains Y).fn (by decide))) (co.blk _ _ _ _ _)) (me_var 4 (pv 4)) (me_make (He.mkr_ok (Y.fact 26)) ((ok_Moments_init_2 Y).fn (by decide)) (co.blk _ _ _ _ _) rfl (Y.glo 11) (ma_cons (me_lst (ma_cons me_int (ma_cons me_int ma_nil))) ma_nil)) (by with_unfolding_all rfl)))) (fun _ _ _ _ _ => (me_var 4 (pv 4)))) (me_lst ma_nil) (nomark _)))))))))
theorem ok__law_said (Y : Cy w K mg) : FdG P w K mg base 6 (He.ga K "_law_said") u__law_said [] := by
  obtain ⟨fd, F⟩ := Y.def_ 19 (d := d__law_said)
  have sc : FnScope ["_law_some_here", "_law_step", "e"] ["_law_some_here", "_law_step"] (defScope s__law_said) := ⟨rfl, rfl, rfl, by decide +kernel, rfl, by decide +kernel, by decide +kernel⟩
  rw [e_u__law_said]
  refine fdg_of F (okD2 F sc rfl rfl fun cdv A outer s H E tk po co => ?_) fun _ _ _ _ _ _ us hl => match us, hl with | [_, _], _ => rfl
  rw [e_b__law_said, e_b__law_said_1]
  exact (mss_cons (ms_try rfl rfl sc.nd tk rfl (fun W pn xe tk po => by
have co := co.tr tk
exact (mss_one (ms_expr (me_make (He.mkr_ok (Y.fact 26)) ((ok_Moments_init_3 Y).fn (by decide)) co rfl (Y.glo 11) (ma_cons (me_var 0 (pv 0)) (ma_cons (me_var 1 (pv 1)) ma_nil)))))) (.cons ⟨rfl, by decide, .inl (Y.glo 20)⟩ (.inr ⟨_, _, rfl, rfl, rfl, rfl⟩) (tab_of (Y.x 21) (gx__law_said Y _ rfl)) (fun x a oe cls d pn hz hf => sIf (fun hx => by
have rdgiven : ExR K mg x.c "given" := by rw [hx]; exact xExR_ok (Y.x 22) (Y.glo 20)
exact (mss_one (ms_ret (me_lst (ma_cons me_str (ma_cons (me_fnB (cm_repr rfl co.gd co.u70) rfl (Y.free 31) PyProof.Rows.Boot.repr (ma_cons (me_excF rfl rfl (rdgiven) hz hf (pv 2)) ma_nil)) ma_nil))))))) (.cons ⟨rfl, by decide, .inl (Y.glo 21)⟩ (.inr ⟨_, _, rfl, rfl, rfl, rfl⟩) (tab_of (Y.x 23) (gx__law_said Y _ rfl)) (fun x a oe cls d pn hz hf => sIf (fun hx => by
have rdgiven : ExR K mg x.c "given" := by rw [hx]; exact xExR_ok (Y.x 24) (Y.glo 21)
exact (mss_one (ms_ret (me_lst (ma_cons me_str (ma_cons (me_fnB (cm_repr rfl co.gd co.u70) rfl (Y.free 31) PyProof.Rows.Boot.repr (ma_cons (me_excF rfl rfl (rdgiven) hz hf (pv 2)) ma_nil)) ma_nil))))))) ClsRel.nil))) (mss_one (ms_ret me_non)))
theorem ok_law_fn {fd : FuncData} (Y : Cy w K mg) (F : FunD K d_law.name d_law.qual d_law.params d_law.body d_law.scope (d_law.dvs K) [] (d_law.at_ K) fd) : FnG P w K mg base 7 (He.ga K "law") fd ["_law_script"] (spOf K mg u_law) := by
  have sc : FnScope ["_law_script", "_law_k", "_law_source_here", "_law_odd", "_law_wrong"] ["_law_script"] (defScope s_law) := ⟨rfl, rfl, rfl, by decide +kernel, rfl, by decide +kernel, by decide +kernel⟩
  rw [e_u_law]
  refine okD2 F sc rfl rfl fun cdv A outer s H E tk po co => ?_
  rw [e_b_law, e_b_law_7, e_b_law_6, e_b_law_5, e_b_law_4, e_b_law_3, e_b_law_2, e_b_law_1]
  exact (mss_cons (ms_for po rfl (pi_mrange1 (fun ha => pi_range1 rfl (Y.free 3) ha) (ma_cons (me_fnB (cm_max2 rfl) rfl (Y.free 2) PyProof.Rows.Boot.max (ma_cons me_int (ma_cons (me_fnB (cm_min2 rfl) rfl (Y.free 1) PyProof.Rows.Boot.min (ma_cons (me_fnB (cm_len rfl) rfl (Y.free 0) PyProof.Rows.Boot.len (ma_cons (me_var 0 (pv 0)) ma_nil)) (ma_cons me_int ma_nil))) ma_nil))) ma_nil)) (gm_name (pg_name sc.nd rfl (Or.inl rfl))) (mss_cons (ms_set (i := 2) sc.nd rfl (Or.inl rfl) (me_call ((ok__law_source Y).fn (by decide)) co rfl (Y.glo 4) (ma_cons (me_var 0 (pv 0)) (ma_cons (me_var 1 (pv 1)) ma_nil)))) (mss_cons (ms_if (PW.pt (mw_or (mt_not (mt_val (me_call ((ok__law_periodic_right Y).fn (by decide)) co rfl (Y.glo 29) (ma_cons (me_var 2 (pv 2)) ma_nil)))) (mw_or1 (mt_not (mt_val (me_call ((ok__law_finite_right Y).fn (by decide)) co rfl (Y.glo 30) (ma_cons (me_var 2 (pv 2)) ma_nil))))))) (mss_one (ms_ret me_bl)) mss_nil) (mss_cons (ms_set (i := 3) sc.nd rfl (Or.inl rfl) (me_lst (ma_cons me_non (ma_cons me_int (ma_cons (me_lst (ma_cons me_int (ma_cons me_int ma_nil))) (ma_cons (me_lst (ma_cons me_int (ma_cons me_int ma_nil))) (ma_cons (me_lst (ma_cons (me_neg me_int) ma_nil)) (ma_cons (me_lst (ma_cons me_bl ma_nil)) (ma_cons (me_lst (ma_cons me_str ma_nil)) (ma_cons (me_dic1 me_int me_int) (ma_cons (me_tup (ma_cons me_int (ma_cons me_non ma_nil))) (ma_cons (me_lstRg1 rfl rfl (Y.free 9) rfl (Y.free 3) me_int) ma_nil)))))))))))) (mss_cons (ms_set (i := 3) sc.nd rfl (Or.inl rfl) (me_ix (im_seq rfl) (me_var 3 (pv 3)) (me_call ((ok__law_draw Y).fn (by decide)) co rfl (Y.glo 5) (ma_cons (me_var 2 (pv 2)) (ma_cons me_int ma_nil))) (fun _ _ => rfl))) (mss_cons (ms_set (i := 4) sc.nd rfl (Or.inl rfl) (me_ix (im_seq rfl) (me_lst (ma_cons me_non (ma_cons (me_neg me_int) (ma_cons me_bl (ma_cons me_str (ma_cons (me_tup (ma_cons me_int ma_nil)) ma_nil)))))) (me_call ((ok__law_draw Y).fn (by decide)) co rfl (Y.glo 5) (ma_cons (me_var 2 (pv 2)) (ma_cons me_int ma_nil))) (fun _ _ => rfl))) (mss_cons (ms_if (PW.pt (mw_or (mt_cmp (om_ne rfl co.u64) (me_call ((ok__law_said Y).fn (by decide)) co rfl (Y.glo 32) (ma_cons (me_var 3 (pv 3)) (ma_cons (me_var 4 (pv 4)) ma_nil))) (me_lst (ma_cons me_str (ma_cons (me_fnB (cm_repr rfl co.gd co.u70) rfl (Y.free 31) PyProof.Rows.Boot.repr (ma_cons (me_var 3 (pv 3)) ma_nil)) ma_nil))) (nomark _)) (mw_or1 (mt_cmp (om_ne rfl co.u64) (me_call ((ok__law_said Y).fn (by decide)) co rfl (Y.glo 32) (ma_cons (me_lst (ma_cons me_int (ma_cons me_int ma_nil))) (ma_cons (me_var 4 (pv 4)) ma_nil))) (me_lst (ma_cons me_str (ma_cons (me_fnB (cm_repr rfl co.gd co.u70) rfl (Y.free 31) PyProof.Rows.Boot.repr (ma_cons (me_var 4 (pv 4)) ma_nil)) ma_nil))) (nomark _))))) (mss_one (ms_ret me_bl)) mss_nil) (mss_one (ms_if (PW.pt (mw_or (mt_cmp (om_ne rfl co.u64) (me_call ((ok__law_said Y).fn (by decide)) co rfl (Y.glo 32) (ma_cons (me_lst (ma_cons me_int (ma_cons me_int ma_nil))) (ma_cons me_int ma_nil))) (me_lst (ma_cons me_str (ma_cons me_str ma_nil))) (nomark _)) (mw_or1 (mt_cmp om_isNot (me_call ((ok__law_said Y).fn (by decide)) co rfl (Y.glo 32) (ma_cons (me_lst (ma_cons me_int (ma_cons me_int ma_nil))) (ma_cons me_int ma_nil))) me_non (nomark _))))) (mss_one (ms_ret me_bl)) mss_nil))))))))) (mss_one (ms_ret (me_cmp (om_eq rfl co.u64) (me_fnB (cm_len rfl) rfl (Y.free 0) PyProof.Rows.Boot.len (ma_cons (me_prop (me_make (He.mkr_ok (Y.fact 26)) ((ok_Moments_init_2 Y).fn (by decide)) co rfl (Y.glo 11) (ma_cons (me_lstRg1 rfl rfl (Y.free 9) rfl (Y.free 3) me_int) ma_nil)) (Y.glo 11) (xOwn_ok (Y.x 0)).cl (xProp_ok (Y.x 13)) ((ok_Moments_firsts Y).fn (by decide)) co) ma_nil)) me_int (nomark _)))))
end
end Lw
namespace Lw
open PySem PySem.Spec PyProof.Rows L2
def l0 : List Str := ["_wall", "WalkError", "InvalidNumber", "InvalidMoments", "InvalidOperand", "LimitExceeded", "is_integer", "check_least", "MAX_FIRSTS", "are_firsts", "least_period", "greatest_common_divisor", "inverse_modulo", "common_residue", "Moments", "_law_source", "_law_draw", "_law_kind", "_law_big", "_law_some", "_law_said", "_law_least", "_law_periodic_right", "_law_finite_right"]
def loose : List Str := l0
abbrev R : PySem.W.OpenRow := PySem.W.OpenLaw.row PySem.Challenge.rw_loopwalks_k08_moments_made
abbrev hk : PySem.W.Hook := hookL 6 fa fn ts xs
def ob (s : PySem.W.SharedT) : AlL := obsLG 6 fa fn ts xs (HandSHeadRun.getT s)
theorem ob_eq (s : PySem.W.SharedT) : ob s = hk.obs s.abs := obsLG_eq (HandSHeadRun.getT_eq s)
theorem run_f (w : World) : HandSHeadRun.RunEq R (PySem.W.view R.prog [28]) hk ob 9000 loose (w.withFollow "special-get-raises" false) := by
  intro os
  kernel_rfl
theorem run_t (w : World) : HandSHeadRun.RunEq R (PySem.W.view R.prog [28]) hk ob 9000 loose (w.withFollow "special-get-raises" true) := by
  intro os
  kernel_rfl
theorem run_all (w : World) : HandSHeadRun.RunEq R (PySem.W.view R.prog [28]) hk ob 9000 loose w := PySem.W.byRow2 "special-get-raises" (P := fun w => HandSHeadRun.RunEq R (PySem.W.view R.prog [28]) hk ob 9000 loose w) run_f run_t w
end Lw

open PySem PySem.W PySem.Calls PyProof.Rows Lw
theorem PySem.Challenge.cw_loopwalks_k08_moments_made_holds : PySem.Challenge.rw_loopwalks_k08_moments_made.Holds := by
  w_on; o_law
  refine HandSHeadRun.head_any (r := OpenLaw.row PySem.Challenge.rw_loopwalks_k08_moments_made) (q := view (OpenLaw.row PySem.Challenge.rw_loopwalks_k08_moments_made).prog [28]) (H := hk) (ob := ob) (M := 9000) (loose := loose) (d := HandSHeadRun.topDef (OpenLaw.row PySem.Challenge.rw_loopwalks_k08_moments_made).prog 28) (kwd := []) ob_eq
    (by kernel_rfl) (fun s => by kernel_rfl) run_all (by kernel_rfl) (by kernel_rfl) (by kernel_rfl) (by rfl) (by first | assumption | decide +kernel) (by decide +kernel) ⟨rfl, rfl, rfl, rfl, rfl, by decide +kernel⟩ ?hw ?hc
  case hw => w_witness2
  case hc =>
    refine walk_ofG (l := PySem.Challenge.rw_loopwalks_k08_moments_made) (n := 63) (k := 7) (x := "_law_script") rfl (by decide) (by kernel_rfl) ⟨rfl, by decide, by decide⟩ fun w mg f h Z G hmg0 => ?_
    obtain ⟨K, KX, c, kk⟩ := Z
    have Y : Cy w K mg := ⟨⟨h, KX, G⟩, c⟩
    have hmg : mg ("law" : PySem.Str) = some (.ref f) := by
      have e : (HandSHeadRun.topDef (OpenLaw.row PySem.Challenge.rw_loopwalks_k08_moments_made).prog 28).name = ("law" : PySem.Str) := by kernel_rfl
      rw [← e]
      exact hmg0
    have e := hmg.symm.trans (Y.glo 33)
    cases e
    obtain ⟨fd, F⟩ := Y.def_ 20 (d := d_law)
    have b := L2.FunD.bindsA (ps := ["_law_script"]) F fun _ _ _ _ _ _ us hl => match us, hl with | [_], _ => rfl
    refine ⟨K, fd, u_law, KX, kk, fun s v => b s [v] rfl, law_pure, fun base => ?_⟩
    exact ok_law_fn (P := (PySem.Challenge.rw_loopwalks_k08_moments_made).prog) Y F

